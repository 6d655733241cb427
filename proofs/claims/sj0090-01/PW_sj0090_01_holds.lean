import PyProof.Rows.All
import Wide.All
import OpenK.AllK
import Wide.FinOn
import PySem.Challenge.RW_sj0090_01

set_option Elab.async false
set_option maxRecDepth 100000
noncomputable section
set_option Elab.async false
namespace Mine
open PySem PySem.W PyProof.Rows PySem.Calls
noncomputable section
noncomputable abbrev pw : Program := PySem.Challenge.pw_sj0090_01
noncomputable def st (i : Nat) : Stmt := pw.main.body.getD i (.Pass ⟨0, 0, 0, 0⟩)
noncomputable def Zn : Stmt → List Stmt
 | .ClassDef _ _ _ b _ _ _ _ _ _ _ => b
 | _ => []
noncomputable def me (i : Nat) : Stmt := (Zn (st 33)).getD i (.Pass ⟨0, 0, 0, 0⟩)
noncomputable def Ao (s : Stmt) (q : Str) (pm : Value) (c : Addr) : Obj := match s with
 | .FunctionDef n args body _ _ _ sc _ _ _ => { cls := .type "function", data := .func (fnOf n q args body sc .none .none .none pm none (.ref c) .none) }
 | _ => { cls := .none, data := .plain }
noncomputable def As (n q : Str) (t l a A : Nat) (x y : Value) (c u : Nat) : Obj := { cls := .type "code", data := .fields #[.str n t, .str q (t + 1), .str "/claim/cut.py" (t + 2), .int l 0, .int a 0, .int 0 0, .int 0 0, .int 3 0, .ref A, .bool true, .int 181 0, .ref (A + 1), .none, x, y, .ref c, .int u 0, .int l 0, .str "/claim/cut.py" (u + 1)] }
noncomputable def de (P : Params) (k : Str) (t : Nat) (v : Value) : DictEntry := { hash := PyData.keyHash P k, key := .str k t, val := v }
noncomputable def KF1 (P : Params) : Frag := [(3, { cls := Value.type "dict", data := Data.dict #[de P "__name__" 165 (.str ("law_sj0090_01") 732), de P "__doc__" 166 (.none), de P "__package__" 167 (.none), de P "__loader__" 168 (.builtin "__main__.__loader__#opaque"), de P "__spec__" 169 (.none), de P "__annotations__" 170 (.ref 6), de P "__builtins__" 171 (.ref 4), de P "__file__" 173 (.str ("/claim/cut.py") 172), de P "__cached__" 174 (.none), de P "GmpError" 208 (.ref 24), de P "DivisionByZero" 224 (.ref 37), de P "OutOfRange" 240 (.ref 49), de P "normal" 248 (.ref 58), de P "nat_of" 258 (.ref 65), de P "compare" 267 (.ref 72), de P "add" 280 (.ref 79), de P "sub" 294 (.ref 86), de P "add_limb" 306 (.ref 93), de P "divrem_limb" 318 (.ref 100), de P "shift_left" 333 (.ref 107), de P "shift_right" 348 (.ref 114), de P "bits" 356 (.ref 121), de P "low" 367 (.ref 128), de P "signed" 377 (.ref 135), de P "s_of" 385 (.ref 142), de P "s_neg" 392 (.ref 149), de P "s_abs" 399 (.ref 156), de P "s_sign" 406 (.ref 163), de P "s_compare" 414 (.ref 170), de P "s_add" 423 (.ref 177), de P "s_sub" 432 (.ref 184), de P "s_mul" 442 (.ref 191), de P "tdiv" 454 (.ref 198), de P "fdiv" 466 (.ref 205), de P "s_shift" 476 (.ref 212), de P "NOUGHT" 479 (.ref 214), de P "dot" 492 (.ref 221), de P "row_less" 498 (.ref 226), de P "nearest_quotient" 508 (.ref 233), de P "Lattice" 632 (.ref 304), de P "mul_school" 650 (.ref 315), de P "divrem_small" 661 (.ref 322), de P "guessed_limb" 675 (.ref 329), de P "take_away" 691 (.ref 336), de P "put_back" 705 (.ref 343), de P "divide_rows" 718 (.ref 350), de P "divrem_school" 731 (.ref 357), de P "_law_raked" 741 (.ref 364), de P "_law_signed" 750 (.ref 371), de P "_law_plain" 756 (.ref 376), de P "_law_worth" 762 (.ref 381), de P "_law_is_same" 768 (.ref 386), de P "_law_sizes" 774 (.ref 391), de P "_law_product" 783 (.ref 398), de P "law" 789 (.ref 403)] 55 }),
 (23, { cls := Value.type "dict", data := Data.dict #[de P "__module__" 196 (.str ("gmp.limbs") 187), de P "__firstlineno__" 200 (.int 2 199), de P "__static_attributes__" 201 (.ref 22), de P "__weakref__" 203 (.ref 25), de P "__doc__" 204 (.none)] 3 }),
 (24, { cls := Value.type "type", data := Data.cls { name := "GmpError", bases := [Value.type "Exception"], mro := [Value.ref 24, Value.type "Exception", Value.type "BaseException", Value.type "object"], ns := 23, qualname := "GmpError", subclasses := [Value.ref 37, Value.ref 49] }, slots := #[some (Value.ref 15), none, some (Value.str "GmpError" 189), some (Value.str "GmpError" 197), some (Value.builtin "Exception.__new__"), some (Value.bool true)] }),
 (48, { cls := Value.type "dict", data := Data.dict #[de P "__module__" 232 (.str ("gmp.limbs") 187), de P "__firstlineno__" 236 (.int 6 235), de P "__static_attributes__" 237 (.ref 47), de P "__doc__" 238 (.none)] 2 }),
 (49, { cls := Value.type "type", data := Data.cls { name := "OutOfRange", bases := [Value.ref 24], mro := [Value.ref 49, Value.ref 24, Value.type "Exception", Value.type "BaseException", Value.type "object"], ns := 48, qualname := "OutOfRange" }, slots := #[some (Value.ref 40), none, some (Value.str "OutOfRange" 225), some (Value.str "OutOfRange" 233), some (Value.builtin "Exception.__new__"), some (Value.bool true)] }),
 (213, { cls := Value.type "list", data := Data.seq #[] }),
 (214, { cls := Value.type "tuple", data := Data.seq #[Value.bool false, Value.ref 213] }),
 (303, { cls := Value.type "dict", data := Data.dict #[de P "__module__" 516 (.str ("gmp.lattice") 477), de P "__firstlineno__" 520 (.int 151 519), de P "__init__" 526 (.ref 245), de P "product_of" 535 (.ref 252), de P "exact" 544 (.ref 259), de P "crossed" 555 (.ref 266), de P "take_in" 567 (.ref 273), de P "shorten" 580 (.ref 280), de P "is_upright" 592 (.ref 287), de P "exchange" 607 (.ref 294), de P "run" 616 (.ref 301), de P "__static_attributes__" 625 (.ref 302), de P "__dict__" 627 (.ref 305), de P "__weakref__" 629 (.ref 306), de P "__doc__" 630 (.none)] 4 }),
 (304, { cls := Value.type "type", data := Data.cls { name := "Lattice", bases := [Value.type "object"], mro := [Value.ref 304, Value.type "object"], ns := 303, qualname := "Lattice" }, slots := #[none, none, some (Value.str "Lattice" 509), some (Value.str "Lattice" 517), some (Value.builtin "object.__new__"), some (Value.bool true)] })]
noncomputable def KF2 : Frag := [(58, Ao (st 4) "normal" (.str "gmp.limbs" 187) 57),
 (65, Ao (st 5) "nat_of" (.str "gmp.limbs" 187) 64),
 (72, Ao (st 6) "compare" (.str "gmp.limbs" 187) 71),
 (79, Ao (st 7) "add" (.str "gmp.limbs" 187) 78),
 (86, Ao (st 8) "sub" (.str "gmp.limbs" 187) 85),
 (93, Ao (st 9) "add_limb" (.str "gmp.limbs" 187) 92),
 (100, Ao (st 10) "divrem_limb" (.str "gmp.limbs" 187) 99),
 (107, Ao (st 11) "shift_left" (.str "gmp.limbs" 187) 106),
 (114, Ao (st 12) "shift_right" (.str "gmp.limbs" 187) 113),
 (121, Ao (st 13) "bits" (.str "gmp.limbs" 187) 120),
 (128, Ao (st 14) "low" (.str "gmp.limbs" 187) 127),
 (135, Ao (st 16) "signed" (.str "gmp.signed" 368) 134),
 (142, Ao (st 17) "s_of" (.str "gmp.signed" 368) 141),
 (149, Ao (st 18) "s_neg" (.str "gmp.signed" 368) 148),
 (156, Ao (st 19) "s_abs" (.str "gmp.signed" 368) 155),
 (163, Ao (st 20) "s_sign" (.str "gmp.signed" 368) 162),
 (170, Ao (st 21) "s_compare" (.str "gmp.signed" 368) 169),
 (177, Ao (st 22) "s_add" (.str "gmp.signed" 368) 176),
 (184, Ao (st 23) "s_sub" (.str "gmp.signed" 368) 183),
 (191, Ao (st 24) "s_mul" (.str "gmp.signed" 368) 190),
 (198, Ao (st 25) "tdiv" (.str "gmp.signed" 368) 197),
 (205, Ao (st 26) "fdiv" (.str "gmp.signed" 368) 204),
 (212, Ao (st 27) "s_shift" (.str "gmp.signed" 368) 211),
 (221, Ao (st 30) "dot" (.str "gmp.lattice" 477) 220),
 (226, Ao (st 31) "row_less" (.str "gmp.lattice" 477) 225),
 (233, Ao (st 32) "nearest_quotient" (.str "gmp.lattice" 477) 232),
 (245, Ao (me 0) "Lattice.__init__" (.str "gmp.lattice" 477) 244),
 (252, Ao (me 1) "Lattice.product_of" (.str "gmp.lattice" 477) 251),
 (259, Ao (me 2) "Lattice.exact" (.str "gmp.lattice" 477) 258),
 (266, Ao (me 3) "Lattice.crossed" (.str "gmp.lattice" 477) 265),
 (273, Ao (me 4) "Lattice.take_in" (.str "gmp.lattice" 477) 272),
 (280, Ao (me 5) "Lattice.shorten" (.str "gmp.lattice" 477) 279),
 (287, Ao (me 6) "Lattice.is_upright" (.str "gmp.lattice" 477) 286),
 (294, Ao (me 7) "Lattice.exchange" (.str "gmp.lattice" 477) 293),
 (301, Ao (me 8) "Lattice.run" (.str "gmp.lattice" 477) 300),
 (315, Ao (st 35) "mul_school" (.str "gmp.school" 633) 314),
 (322, Ao (st 36) "divrem_small" (.str "gmp.school" 633) 321),
 (329, Ao (st 37) "guessed_limb" (.str "gmp.school" 633) 328),
 (336, Ao (st 38) "take_away" (.str "gmp.school" 633) 335),
 (343, Ao (st 39) "put_back" (.str "gmp.school" 633) 342),
 (350, Ao (st 40) "divide_rows" (.str "gmp.school" 633) 349),
 (357, Ao (st 41) "divrem_school" (.str "gmp.school" 633) 356),
 (364, Ao (st 43) "_law_raked" (.str "law_sj0090_01" 732) 363),
 (371, Ao (st 44) "_law_signed" (.str "law_sj0090_01" 732) 370),
 (376, Ao (st 45) "_law_plain" (.str "law_sj0090_01" 732) 375),
 (381, Ao (st 46) "_law_worth" (.str "law_sj0090_01" 732) 380),
 (386, Ao (st 47) "_law_is_same" (.str "law_sj0090_01" 732) 385),
 (391, Ao (st 48) "_law_sizes" (.str "law_sj0090_01" 732) 390),
 (398, Ao (st 49) "_law_product" (.str "law_sj0090_01" 732) 397),
 (403, Ao (st 50) "law" (.str "law_sj0090_01" 732) 402)]
noncomputable def KF3 : Frag := [(57, As "normal" "normal" 241 8 1 52 (.ref 54) (.ref 55) 56 246),
 (64, As "nat_of" "nat_of" 249 13 2 59 (.ref 61) (.ref 62) 63 256),
 (71, As "compare" "compare" 259 21 2 66 (.ref 68) (.ref 69) 70 265),
 (78, As "add" "add" 268 28 3 73 (.ref 75) (.ref 76) 77 278),
 (85, As "sub" "sub" 281 43 3 80 (.ref 82) (.ref 83) 84 292),
 (92, As "add_limb" "add_limb" 295 52 3 87 (.ref 89) (.ref 90) 91 304),
 (99, As "divrem_limb" "divrem_limb" 307 61 3 94 (.ref 96) (.ref 97) 98 316),
 (106, As "shift_left" "shift_left" 319 70 3 101 (.ref 103) (.ref 104) 105 331),
 (113, As "shift_right" "shift_right" 334 82 3 108 (.ref 110) (.ref 111) 112 346),
 (120, As "bits" "bits" 349 89 2 115 (.ref 117) (.ref 118) 119 354),
 (127, As "low" "low" 357 91 3 122 (.ref 124) (.ref 125) 126 365),
 (134, As "signed" "signed" 370 97 2 129 (.ref 131) (.ref 132) 133 375),
 (141, As "s_of" "s_of" 378 99 2 136 (.ref 138) (.ref 139) 140 383),
 (148, As "s_neg" "s_neg" 386 101 1 143 (.ref 145) (.ref 146) 147 390),
 (155, As "s_abs" "s_abs" 393 103 1 150 (.ref 152) (.ref 153) 154 397),
 (162, As "s_sign" "s_sign" 400 105 1 157 (.ref 159) (.ref 160) 161 404),
 (169, As "s_compare" "s_compare" 407 109 2 164 (.ref 166) (.ref 167) 168 412),
 (176, As "s_add" "s_add" 415 113 3 171 (.ref 173) (.ref 174) 175 421),
 (183, As "s_sub" "s_sub" 424 119 3 178 (.ref 180) (.ref 181) 182 430),
 (190, As "s_mul" "s_mul" 433 121 4 185 (.ref 187) (.ref 188) 189 440),
 (197, As "tdiv" "tdiv" 443 123 4 192 (.ref 194) (.ref 195) 196 452),
 (204, As "fdiv" "fdiv" 455 128 4 199 (.ref 201) (.ref 202) 203 464),
 (211, As "s_shift" "s_shift" 467 133 3 206 (.ref 208) (.ref 209) 210 474),
 (220, As "dot" "dot" 480 142 4 215 (.ref 217) (.ref 218) 219 490),
 (225, As "row_less" "row_less" 493 147 5 222 .none .none 224 496),
 (232, As "nearest_quotient" "nearest_quotient" 499 149 4 227 (.ref 229) (.ref 230) 231 506),
 (244, As "__init__" "Lattice.__init__" 521 153 7 241 .none .none 243 524),
 (251, As "product_of" "Lattice.product_of" 527 163 3 246 (.ref 248) (.ref 249) 250 533),
 (258, As "exact" "Lattice.exact" 536 166 3 253 (.ref 255) (.ref 256) 257 542),
 (265, As "crossed" "Lattice.crossed" 545 169 5 260 (.ref 262) (.ref 263) 264 553),
 (272, As "take_in" "Lattice.take_in" 556 172 2 267 (.ref 269) (.ref 270) 271 565),
 (279, As "shorten" "Lattice.shorten" 568 186 3 274 (.ref 276) (.ref 277) 278 578),
 (286, As "is_upright" "Lattice.is_upright" 581 196 2 281 (.ref 283) (.ref 284) 285 590),
 (293, As "exchange" "Lattice.exchange" 593 202 2 288 (.ref 290) (.ref 291) 292 605),
 (300, As "run" "Lattice.run" 608 217 1 295 (.ref 297) (.ref 298) 299 614),
 (314, As "mul_school" "mul_school" 635 232 3 309 (.ref 311) (.ref 312) 313 648),
 (321, As "divrem_small" "divrem_small" 651 242 3 316 (.ref 318) (.ref 319) 320 659),
 (328, As "guessed_limb" "guessed_limb" 662 245 4 323 (.ref 325) (.ref 326) 327 673),
 (335, As "take_away" "take_away" 676 253 5 330 (.ref 332) (.ref 333) 334 689),
 (342, As "put_back" "put_back" 692 262 4 337 (.ref 339) (.ref 340) 341 703),
 (349, As "divide_rows" "divide_rows" 706 269 3 344 (.ref 346) (.ref 347) 348 716),
 (356, As "divrem_school" "divrem_school" 719 279 3 351 (.ref 353) (.ref 354) 355 729),
 (363, As "_law_raked" "_law_raked" 734 293 2 358 (.ref 360) (.ref 361) 362 739),
 (370, As "_law_signed" "_law_signed" 742 298 1 365 (.ref 367) (.ref 368) 369 748),
 (375, As "_law_plain" "_law_plain" 751 304 1 372 .none .none 374 754),
 (380, As "_law_worth" "_law_worth" 757 307 1 377 .none .none 379 760),
 (385, As "_law_is_same" "_law_is_same" 763 315 3 382 .none .none 384 766),
 (390, As "_law_sizes" "_law_sizes" 769 322 1 387 .none .none 389 772),
 (397, As "_law_product" "_law_product" 775 324 1 392 (.ref 394) (.ref 395) 396 781),
 (402, As "law" "law" 784 329 1 399 .none .none 401 787)]
noncomputable def KO (P : Params) : Frag := KF2 ++ (KF3 ++ KF1 P)
noncomputable def KAs : List Addr := [58, 65, 72, 79, 86, 93, 100, 107, 114, 121, 128, 135, 142, 149, 156, 163, 170, 177, 184, 191, 198, 205, 212, 221, 226, 233, 245, 252, 259, 266, 273, 280, 287, 294, 301, 315, 322, 329, 336, 343, 350, 357, 364, 371, 376, 381, 386, 391, 398, 403, 57, 64, 71, 78, 85, 92, 99, 106, 113, 120, 127, 134, 141, 148, 155, 162, 169, 176, 183, 190, 197, 204, 211, 220, 225, 232, 244, 251, 258, 265, 272, 279, 286, 293, 300, 314, 321, 328, 335, 342, 349, 356, 363, 370, 375, 380, 385, 390, 397, 402, 3, 23, 24, 48, 49, 213, 214, 303, 304]
theorem cN (P : Params) : KAs = (KO P).map (·.1) := by kernel_rfl
noncomputable def view : Program := { pw with main := { pw.main with body := pw.main.body.drop 50 } }
noncomputable def Ii : List Str := ["GmpError", "DivisionByZero", "OutOfRange", "normal", "nat_of", "compare", "add", "sub", "add_limb", "divrem_limb", "shift_left", "shift_right", "bits", "low", "signed", "s_of", "s_neg", "s_abs", "s_sign", "s_compare", "s_add", "s_sub", "s_mul", "tdiv", "fdiv", "s_shift", "NOUGHT", "dot", "row_less", "nearest_quotient", "Lattice", "mul_school", "divrem_small", "guessed_limb", "take_away", "put_back", "divide_rows", "divrem_school", "_law_raked", "_law_signed", "_law_plain", "_law_worth", "_law_is_same", "_law_sizes", "_law_product"].map Str.ofString
abbrev lrow : OpenRow := OpenLaw.row PySem.Challenge.rw_sj0090_01
noncomputable def hook : Hook := kHook KO KAs cN
theorem Y3 (w : World) : (openEnds Fast.tw14364793385576792824 pw w 5110).map (fun s => (Fast.tw4187177175401517315 view Ii (Fast.tw5923862056798008813 pw.main.body) (fun _ => true) true s, hook.obs s)) = some (openGood view Ii, hook.val w) := by kernel_rfl
theorem left : LeftO pw view Ii (fun _ => true) hook.obs hook.val 5110 := by
 intro w
 rw [Fast.te14364793385576792824, Fast.te4187177175401517315, Fast.te5923862056798008813]
 exact Y3 w
theorem Yd : Fast.tw9446332074065402090 PySem.Challenge.rw_sj0090_01 = true := by kernel_rfl
theorem eW : PySem.Challenge.rw_sj0090_01.wellSaid = true := by
 rw [Fast.te9446332074065402090]; exact Yd
theorem hok : (chainsOk view && opensWell lrow.prog && (frees lrow.toRowW && lrow.within.isEmpty)) = true := by kernel_rfl
theorem dX : lrow.prog.bare := ⟨by kernel_rfl, by kernel_rfl, by kernel_rfl, by kernel_rfl, by kernel_rfl, by kernel_rfl⟩
theorem dU : (defOf view lrow.name).isSome = true := by kernel_rfl
noncomputable def I9 := (defOf view lrow.name).get dU
theorem gQ : defOf view lrow.name = some (I9.1, I9.2) := by kernel_rfl
theorem gP : lrow.prog.theDef lrow.name = some (I9.1.params, I9.1.body, I9.1.scope) := by kernel_rfl
theorem hkw : kwWritten? I9.1.params.kwonlyargs I9.1.params.kw_defaults = some I9.2 := by kernel_rfl
theorem dW : lrow.toRowW.promised := by w_witness2
theorem head (walk : WalkO view Ii (fun _ _ => True) (InK KO) lrow.toRowW I9.1 I9.2 (fun f vs => PySem.call f vs)) : PySem.Challenge.rw_sj0090_01.Holds :=
 holds_law eW fun hs => PySem.W.holds_open (r := lrow) (q := view) (loose := Ii) (Xt := fun _ => true) (XP := fun _ _ => True) (Yf := hook.obs) (Ya := hook.val) (YP := hook.says) left hook.of hook.keeps (fun _ _ => trivial) (fun _ _ _ _ _ => trivial) gQ gP hkw
  (fun _ _ => recFacts_nil (by kernel_rfl)) (by kernel_rfl) hs hok dX dW walk
end
end Mine
end
noncomputable section
set_option genInjectivity false
namespace Mine
namespace Q
noncomputable section
noncomputable def get {α : Type} (d : α) (l : List α) : Nat → α := l.rec (fun _ => d) fun x _ r i => i.rec x fun j _ => r j
noncomputable def Ik (p : List Int) : List Int → List Int := p.rec (fun q => q) fun x p r q => q.rec (x :: p) fun y q _ => (x + y) :: r q
noncomputable def Ho (k : Int) (p : List Int) : List Int := p.map fun x => k * x
noncomputable def Si (i : Nat) : List Int := i.rec [1] fun _ r => 0 :: r
noncomputable def pv (f : Nat → Int) (p : List Int) : Nat → Int := p.rec (fun _ => 0) fun x _ r i => x * f i + r (i + 1)
theorem Ic (f : Nat → Int) (p : List Int) : ∀ (q : List Int) (i : Nat), pv f (Ik p q) i = pv f p i + pv f q i := by
 induction p with
 | nil => exact fun q i => (Int.zero_add _).symm
 | cons x p ih =>
  intro q i
  cases q with
  | nil => exact (Int.add_zero _).symm
  | cons y q =>
   show (x + y) * f i + pv f (Ik p q) (i + 1) = x * f i + pv f p (i + 1) + (y * f i + pv f q (i + 1))
   rw [ih, Int.add_mul]; ac_rfl
theorem Fr (f : Nat → Int) (k : Int) (p : List Int) : ∀ i : Nat, pv f (Ho k p) i = k * pv f p i := by
 induction p with
 | nil => exact fun i => (Int.mul_zero k).symm
 | cons x p ih =>
  intro i
  show k * x * f i + pv f (Ho k p) (i + 1) = k * (x * f i + pv f p (i + 1))
  rw [ih, Int.mul_add, Int.mul_assoc]
theorem R5 (f : Nat → Int) (j : Nat) : ∀ i : Nat, pv f (Si j) i = f (i + j) := by
 induction j with
 | zero => exact fun i => (Int.add_zero _).trans (Int.one_mul _)
 | succ j ih =>
  intro i
  show 0 * f i + pv f (Si j) (i + 1) = _
  rw [ih, Int.zero_mul, Int.zero_add, Nat.add_right_comm]; rfl
noncomputable abbrev E := List Nat × List Int
noncomputable def fF (e : E) (j : Nat) : Int := bif Nat.beq (j % 2) 1 then (get 0 e.1 (j / 2) : Nat) else bif Nat.beq j 0 then 1 else get 0 e.2 (j / 2 - 1)
structure A where
 z : E → Int
 p : List Int
 h : ∀ e, pv (fF e) p 0 = z e
structure B where
 n : E → Nat
 p : List Int
 h : ∀ e, pv (fF e) p 0 = (n e : Int)
noncomputable abbrev co (f : Nat → Int) (c : Bool × List Int) : Prop := pv f c.2 0 ≤ 0 ∧ (c.1 = true → pv f c.2 0 = 0)
structure C where
 P : E → Prop
 h : Bool × List Int
 c : Bool × List Int
 c' : Bool × List Int
 hp : ∀ e, P e → co (fF e) h
 hg : ∀ e, (co (fF e) c → False) → (co (fF e) c' → False) → P e
variable {f : Nat → Int}
theorem sn {a b : Int} : a ≤ b ↔ a - b ≤ 0 := ⟨Int.sub_nonpos_of_le, Int.le_of_sub_nonpos⟩
theorem p1 (h1 : f 0 = 1) (k : Int) : pv f [k] 0 = k := by show k * f 0 + 0 = k; rw [h1, Int.add_zero, Int.mul_one]
noncomputable def add (x y : B) : B := ⟨fun e => x.n e + y.n e, Ik x.p y.p, fun e => by rw [Ic, x.h, y.h]; rfl⟩
noncomputable def gM (k : Nat) (x : B) : B := ⟨fun e => k * x.n e, Ho k x.p, fun e => by rw [Fr, x.h]; rfl⟩
noncomputable def gL (k : Nat) (x : B) : B := ⟨fun e => x.n e * k, Ho k x.p, fun e => by rw [Fr, x.h, Int.mul_comm]; rfl⟩
noncomputable def cM (x y : A) : A := ⟨fun e => x.z e + y.z e, Ik x.p y.p, fun e => by rw [Ic, x.h, y.h]⟩
noncomputable def dR (k : Int) (x : A) : A := ⟨fun e => k * x.z e, Ho k x.p, fun e => by rw [Fr, x.h]⟩
noncomputable def dP (k : Int) (x : A) : A := ⟨fun e => x.z e * k, Ho k x.p, fun e => by rw [Fr, x.h, Int.mul_comm]⟩
noncomputable def gK (x : A) : A := ⟨fun e => -x.z e, Ho (-1) x.p, fun e => by rw [Fr, x.h, Int.neg_mul, Int.one_mul]⟩
noncomputable def Pp (x y : A) : A := ⟨fun e => x.z e - y.z e, Ik x.p (Ho (-1) y.p), fun e => by rw [Ic, Fr, x.h, y.h, Int.neg_mul, Int.one_mul]; rfl⟩
theorem flip {d : A} (e : E) (h : ¬ pv (fF e) (Ik [1] (Ho (-1) d.p)) 0 ≤ 0) : d.z e ≤ 0 := Int.not_lt.mp fun t => h (by
 rw [Ic, Fr, p1 rfl, d.h, Int.neg_mul, Int.one_mul]; exact Int.sub_nonpos_of_le t)
noncomputable def cle (P : E → Prop) (d : A) (i : ∀ e, P e ↔ d.z e ≤ 0) : C :=
 ⟨P, (false, d.p), (false, Ik [1] (Ho (-1) d.p)), (false, [1]), fun e h => ⟨d.h e ▸ (i e).mp h, fun t => nomatch t⟩, fun e a _ => (i e).mpr (flip e fun t => a ⟨t, fun t => nomatch t⟩)⟩
noncomputable def ceq (P : E → Prop) (d : A) (i : ∀ e, P e ↔ d.z e = 0) : C :=
 ⟨P, (true, d.p), (false, Ik [1] (Ho (-1) d.p)), (false, Ik [1] d.p), fun e h => ⟨Int.le_of_eq ((d.h e).trans ((i e).mp h)), fun _ => (d.h e).trans ((i e).mp h)⟩, fun e a b => (i e).mpr (Int.le_antisymm
  (flip e fun t => a ⟨t, fun t => nomatch t⟩)
  (Int.not_lt.mp fun t => b ⟨by
   show pv (fF e) (Ik [1] d.p) 0 ≤ 0
   rw [Ic, p1 rfl, d.h, Int.add_comm]; exact t, fun t => nomatch t⟩))⟩
noncomputable def cne (P : E → Prop) (d : A) (i : ∀ e, P e ↔ ¬ d.z e = 0) : C :=
 ⟨P, (false, []), (true, d.p), (false, [1]), fun _ _ => ⟨Int.le_refl _, fun t => nomatch t⟩, fun e a _ => (i e).mpr fun t => a ⟨Int.le_of_eq ((d.h e).trans t), fun _ => (d.h e).trans t⟩⟩
noncomputable def cF : C := ⟨fun _ => False, (false, []), (false, []), (false, [1]), fun _ h => h.elim, fun _ a _ => a ⟨Int.le_refl _, fun t => nomatch t⟩⟩
noncomputable def up (x : B) : A := ⟨fun e => x.n e, x.p, x.h⟩
noncomputable def vn (i : Nat) : B := ⟨fun e => get 0 e.1 i, Si (2 * i + 1), fun e => by
 rw [R5, Nat.zero_add]; unfold fF
 rw [Nat.mul_add_mod, Nat.mul_add_div (by decide)]; rfl⟩
noncomputable def vz (i : Nat) : A := ⟨fun e => get 0 e.2 i, Si (2 * i + 2), fun e => by
 rw [R5, Nat.zero_add]; unfold fF
 rw [Nat.mul_add_mod, Nat.mul_add_div (by decide)]; rfl⟩
noncomputable def dg (k : Nat) : Nat → List Nat := k.rec (fun _ => []) fun _ r n => n % 16 :: r (n / 16)
noncomputable def hd (l : List Nat) : Nat := l.rec 0 fun x _ _ => x
noncomputable def tl (l : List Nat) : List Nat := l.rec [] fun _ l _ => l
noncomputable def dv (k : Nat) : List Nat → Nat := k.rec (fun _ => 0) fun _ r l => hd l + 16 * r (tl l)
noncomputable def dr (k : Nat) : List Nat → List Nat := k.rec (fun l => l) fun _ r l => r (tl l)
noncomputable def Qf (l : List Nat) : Nat × List Nat := bif Nat.beq (hd l) 15 then (dv (hd (tl l)) (tl (tl l)), dr (hd (tl l)) (tl (tl l))) else (hd l, tl l)
section
noncomputable def rN : Nat → List Nat → B × List Nat
 | 0, n => (vn 0, n)
 | k + 1, n => match hd n with
  | 8 => let r := Qf (tl n); let q := rN k r.2; (gM r.1 q.1, q.2)
  | 9 => let r := Qf (tl n); let q := rN k r.2; (gL r.1 q.1, q.2)
  | 10 => let r := rN k (tl n); let q := rN k r.2; (add r.1 q.1, q.2)
  | 11 => let r := Qf (tl n); (⟨fun _ => r.1, [(r.1 : Int)], fun e => p1 rfl _⟩, r.2)
  | i => (vn i, tl n)
noncomputable def rZ : Nat → List Nat → A × List Nat
 | 0, n => (vz 0, n)
 | k + 1, n => match hd n with
  | 8 => let r := Qf (tl n); let q := rZ k r.2; (dR r.1 q.1, q.2)
  | 9 => let r := Qf (tl n); let q := rZ k r.2; (dP r.1 q.1, q.2)
  | 10 => let r := rZ k (tl n); let q := rZ k r.2; (cM r.1 q.1, q.2)
  | 11 => let r := Qf (tl n); (⟨fun _ => r.1, [(r.1 : Int)], fun e => p1 rfl _⟩, r.2)
  | 12 => let r := rZ k (tl n); let q := rZ k r.2; (Pp r.1 q.1, q.2)
  | 13 => let r := rZ k (tl n); (gK r.1, r.2)
  | 14 => let r := rN 12 (tl n); (up r.1, r.2)
  | i => (vz i, tl n)
noncomputable def one : A := ⟨fun _ => 1, [1], fun e => p1 rfl 1⟩
noncomputable def rel (t : Nat) (x y : A) (le lt eq : E → Prop) (hle : ∀ e, le e ↔ x.z e ≤ y.z e) (hlt : ∀ e, lt e ↔ x.z e < y.z e) (heq : ∀ e, eq e ↔ x.z e = y.z e) : C := match t with
 | 0 => cle le (Pp x y) fun e => (hle e).trans sn
 | 1 => cle lt (Pp (cM x one) y) fun e => (hlt e).trans sn
 | 2 => ceq eq (Pp x y) fun e => (heq e).trans Int.sub_eq_zero.symm
 | 3 => cle (fun e => ¬ le e) (Pp (cM y one) x) fun e => (not_congr (hle e)).trans (Int.not_le.trans sn)
 | 4 => cle (fun e => ¬ lt e) (Pp y x) fun e => (not_congr (hlt e)).trans (Int.not_lt.trans sn)
 | _ => cne (fun e => ¬ eq e) (Pp x y) fun e => not_congr ((heq e).trans Int.sub_eq_zero.symm)
end
noncomputable def eX (t : Nat) (x y : A) : C := rel t x y (fun e => x.z e ≤ y.z e) (fun e => x.z e < y.z e) (fun e => x.z e = y.z e) (fun _ => Iff.rfl) (fun _ => Iff.rfl) (fun _ => Iff.rfl)
noncomputable def eY (t : Nat) (x y : B) : C := rel t (up x) (up y) (fun e => x.n e ≤ y.n e) (fun e => x.n e < y.n e) (fun e => x.n e = y.n e) (fun _ => Int.ofNat_le.symm) (fun _ => Int.ofNat_lt.symm) (fun _ => Int.ofNat_inj.symm)
noncomputable def rC (n : List Nat) : C × List Nat := bif Nat.beq (hd n) 15 then (cF, tl n) else bif Nat.ble 6 (hd n) then
  let x := rZ 12 (tl n); let y := rZ 12 x.2
  (eX (hd n - 6) x.1 y.1, y.2)
 else
  let x := rN 12 (tl n); let y := rN 12 x.2
  (eY (hd n) x.1 y.1, y.2)
noncomputable def rCs (k : Nat) : List Nat → List C × List Nat := k.rec (fun n => ([], n)) fun _ r n => let c := rC n; let q := r c.2; (c.1 :: q.1, q.2)
noncomputable def rMs (k : Nat) : List Nat → List Int × List Nat := k.rec (fun n => ([], n)) fun _ r n => let m := Qf n; let q := r m.2; ((bif Nat.beq (m.1 % 2) 0 then ((m.1 / 2 : Nat) : Int) else -(((m.1 + 1) / 2 : Nat) : Int)) :: q.1, q.2)
noncomputable def imp (e : E) (l : List C) (g : Prop) : Prop := l.rec g fun c _ r => c.P e → r
noncomputable def sum (l : List (Bool × List Int)) : List Int → List Int → Option (List Int) := l.rec (fun _ s => some s) fun c _ r ms s => ms.rec (some s) fun m ms _ => bif decide (m = 0) then r ms s else bif c.1 || decide (0 ≤ m) then r ms (Ik (Ho m c.2) s) else none
theorem aN {l : List (Bool × List Int)} : ∀ {ms s r : List Int}, (∀ c, c ∈ l → co f c) → sum l ms s = some r → pv f r 0 ≤ pv f s 0 := by
 induction l with
 | nil => intro ms s r _ e; cases e; exact Int.le_refl _
 | cons c l ih =>
  intro ms s r H e
  cases ms with
  | nil => cases e; exact Int.le_refl _
  | cons m ms =>
   have H' : ∀ c, c ∈ l → co f c := fun x hx => H x (List.mem_cons_of_mem _ hx)
   replace e : (bif decide (m = 0) then sum l ms s else bif c.1 || decide (0 ≤ m) then sum l ms (Ik (Ho m c.2) s) else none) = some r := e
   cases q : decide (m = 0) with
   | true => rw [q] at e; exact ih H' e
   | false =>
    rw [q] at e
    replace e : (bif c.1 || decide (0 ≤ m) then sum l ms (Ik (Ho m c.2) s) else none) = some r := e
    cases q2 : c.1 || decide (0 ≤ m) with
    | false => rw [q2] at e; cases e
    | true =>
     rw [q2] at e
     have t := ih H' e
     rw [Ic, Fr] at t
     have hc := H c List.mem_cons_self
     refine Int.le_trans t (Int.le_trans (Int.add_le_add_right (b := 0) ?_ _) (Int.le_of_eq (Int.zero_add _)))
     rcases (Bool.or_eq_true _ _).mp q2 with b | b
     ·rw [hc.2 b, Int.mul_zero]; exact Int.le_refl _
     ·exact Int.mul_nonpos_of_nonneg_of_nonpos (of_decide_eq_true b) hc.1
noncomputable def eA (l : List Int) : Bool → Bool := l.rec (fun _ => true) fun x _ r b => (bif b then decide (x = 0) else decide (0 ≤ x)) && r (!b)
theorem cL (h : ∀ j, j % 2 = 1 → 0 ≤ f j) (l : List Int) : ∀ (b : Bool) (i : Nat), i % 2 = (bif b then 0 else 1) → eA l b = true → 0 ≤ pv f l i := by
 induction l with
 | nil => exact fun _ _ _ _ => Int.le_refl _
 | cons x l ih =>
  intro b i hi e
  obtain ⟨e1, e2⟩ := (Bool.and_eq_true _ _).mp e
  refine Int.add_nonneg ?_ (ih _ (i + 1) (by cases b <;> simp only [cond, Bool.not] at * <;> omega) e2)
  cases b with
  | true => rw [of_decide_eq_true e1, Int.zero_mul]; exact Int.le_refl _
  | false => exact Int.mul_nonneg (of_decide_eq_true e1) (h i hi)
noncomputable def fin (o : Option (List Int)) : Bool := o.rec false fun l => l.rec false fun c p _ => decide (1 ≤ c) && eA p false
theorem Wl (h1 : f 0 = 1) (h : ∀ j, j % 2 = 1 → 0 ≤ f j) {l : List (Bool × List Int)} {ms : List Int} (e : fin (sum l ms []) = true) (H : ∀ c, c ∈ l → co f c) : False := by
 cases q : sum l ms [] with
 | none => rw [q] at e; cases e
 | some r =>
  rw [q] at e
  have t := aN H q
  cases r with
  | nil => cases e
  | cons c p =>
   obtain ⟨e1, e2⟩ := (Bool.and_eq_true _ _).mp e
   have a := cL h p false 1 rfl e2
   replace t : c * f 0 + pv f p 1 ≤ 0 := t
   rw [h1] at t
   have := of_decide_eq_true e1
   omega
noncomputable def chk (l : List C) (g : C) (ms ms' : List Int) : Bool := fin (sum (g.c :: l.map C.h) ms []) && fin (sum (g.c' :: l.map C.h) ms' [])
theorem bP {e : E} {g : Prop} (l : List C) : ((∀ c, c ∈ l.map C.h → co (fF e) c) → g) → imp e l g := by
 induction l with
 | nil => exact fun h => h fun _ t => nomatch t
 | cons c l ih => exact fun h p => ih fun H => h fun x hx => (List.mem_cons.mp hx).elim (fun t => t ▸ c.hp e p) (H x)
theorem F1 (e : E) (j : Nat) (h : j % 2 = 1) : 0 ≤ fF e j := by
 unfold fF; rw [h]; exact Int.natCast_nonneg _
theorem chk_ok (e : E) (l : List C) (g : C) (ms ms' : List Int) (t : chk l g ms ms' = true) : imp e l (g.P e) := bP l fun H =>
 have t := (Bool.and_eq_true _ _).mp t
 have k : ∀ c, co (fF e) c → ∀ x, x ∈ c :: l.map C.h → co (fF e) x := fun c hc x hx => (List.mem_cons.mp hx).elim (fun t => t ▸ hc) (H x)
 g.hg e (fun x => Wl rfl (F1 e) t.1 (k _ x)) (fun x => Wl rfl (F1 e) t.2 (k _ x))
noncomputable def D (N : Nat) (e : E) : Prop :=
 let l := dg 128 N
 let r := rCs (hd l) (tl l)
 let g := rC r.2
 let m := rMs (hd l + 1) g.2
 let m' := rMs (hd l + 1) m.2
 (chk r.1 g.1 m.1 m'.1).rec True (imp e r.1 (g.1.P e))
end
end Q
theorem lq (N : Nat) (ns : List Nat) (zs : List Int) : Q.D N (ns, zs) := by
 unfold Q.D
 intro l r g m m'
 cases t : Q.chk r.1 g.1 m.1 m'.1 with
 | false => exact trivial
 | true => exact Q.chk_ok _ _ _ _ _ t
theorem zA {A B : Prop} {G : Prop} (h : A ∧ B) (k : A → B → G) : G := k h.1 h.2
theorem zE {X : Type} {A : X → Prop} {G : Prop} (h : ∃ x, A x) (k : ∀ x, A x → G) : G := h.elim fun x h => k x h
theorem zAA {A B C : Prop} {G : Prop} (h : A ∧ B ∧ C) (k : A → B → C → G) : G := k h.1 h.2.1 h.2.2
theorem zEA {X : Type} {A B : X → Prop} {G : Prop} (h : ∃ x, A x ∧ B x) (k : ∀ x, A x → B x → G) : G := h.elim fun x h => k x h.1 h.2
theorem zEE {X Y : Type} {A : X → Y → Prop} {G : Prop} (h : ∃ x y, A x y) (k : ∀ x y, A x y → G) : G := h.elim fun x h => h.elim fun y h => k x y h
theorem G1 {A B C D : Prop} {G : Prop} (h : A ∧ B ∧ C ∧ D) (k : A → B → C → D → G) : G := k h.1 h.2.1 h.2.2.1 h.2.2.2
theorem Ec {X : Type} {A : Prop} {B C : X → Prop} {G : Prop} (h : A ∧ ∃ x, B x ∧ C x) (k : A → ∀ x, B x → C x → G) : G := by obtain ⟨a0, a1, a2, a3⟩ := h; exact k a0 a1 a2 a3
theorem A6 {X : Type} {A B C : X → Prop} {G : Prop} (h : ∃ x, A x ∧ B x ∧ C x) (k : ∀ x, A x → B x → C x → G) : G := h.elim fun x h => k x h.1 h.2.1 h.2.2
theorem Ei {X Y : Type} {A B : X → Y → Prop} {G : Prop} (h : ∃ x y, A x y ∧ B x y) (k : ∀ x y, A x y → B x y → G) : G := h.elim fun x h => h.elim fun y h => k x y h.1 h.2
theorem Ha {X Y Z : Type} {A : X → Y → Z → Prop} {G : Prop} (h : ∃ x y z, A x y z) (k : ∀ x y z, A x y z → G) : G := h.elim fun x h => h.elim fun y h => h.elim fun z h => k x y z h
theorem Dz {A B C D E : Prop} {G : Prop} (h : A ∧ B ∧ C ∧ D ∧ E) (k : A → B → C → D → E → G) : G := k h.1 h.2.1 h.2.2.1 h.2.2.2.1 h.2.2.2.2
theorem L3 {X : Type} {A B C D : X → Prop} {G : Prop} (h : ∃ x, A x ∧ B x ∧ C x ∧ D x) (k : ∀ x, A x → B x → C x → D x → G) : G := h.elim fun x h => k x h.1 h.2.1 h.2.2.1 h.2.2.2
theorem Bv {X Y : Type} {A B C : X → Y → Prop} {G : Prop} (h : ∃ x y, A x y ∧ B x y ∧ C x y) (k : ∀ x y, A x y → B x y → C x y → G) : G := h.elim fun x h => h.elim fun y h => k x y h.1 h.2.1 h.2.2
theorem It {X Y Z : Type} {A B : X → Y → Z → Prop} {G : Prop} (h : ∃ x y z, A x y z ∧ B x y z) (k : ∀ x y z, A x y z → B x y z → G) : G := h.elim fun x h => h.elim fun y h => h.elim fun z h => k x y z h.1 h.2
theorem G0 {A B C D E F : Prop} {G : Prop} (h : A ∧ B ∧ C ∧ D ∧ E ∧ F) (k : A → B → C → D → E → F → G) : G := k h.1 h.2.1 h.2.2.1 h.2.2.2.1 h.2.2.2.2.1 h.2.2.2.2.2
theorem Ml {X : Type} {A : Prop} {B C D E : X → Prop} {G : Prop} (h : A ∧ ∃ x, B x ∧ C x ∧ D x ∧ E x) (k : A → ∀ x, B x → C x → D x → E x → G) : G := by obtain ⟨a0, a1, a2, a3, a4, a5⟩ := h; exact k a0 a1 a2 a3 a4 a5
theorem Be {X Y : Type} {A B C D : X → Y → Prop} {G : Prop} (h : ∃ x y, A x y ∧ B x y ∧ C x y ∧ D x y) (k : ∀ x y, A x y → B x y → C x y → D x y → G) : G := h.elim fun x h => h.elim fun y h => k x y h.1 h.2.1 h.2.2.1 h.2.2.2
theorem Ph {X Y Z U V : Type} {A : X → Y → Z → U → V → Prop} {G : Prop} (h : ∃ x y z u v, A x y z u v) (k : ∀ x y z u v, A x y z u v → G) : G := h.elim fun x h => h.elim fun y h => h.elim fun z h => h.elim fun u h => h.elim fun v h => k x y z u v h
theorem Dc {A B C D E F H : Prop} {G : Prop} (h : A ∧ B ∧ C ∧ D ∧ E ∧ F ∧ H) (k : A → B → C → D → E → F → H → G) : G := k h.1 h.2.1 h.2.2.1 h.2.2.2.1 h.2.2.2.2.1 h.2.2.2.2.2.1 h.2.2.2.2.2.2
theorem Mk {X : Type} {A B C D E F : X → Prop} {G : Prop} (h : ∃ x, A x ∧ B x ∧ C x ∧ D x ∧ E x ∧ F x) (k : ∀ x, A x → B x → C x → D x → E x → F x → G) : G := h.elim fun x h => k x h.1 h.2.1 h.2.2.1 h.2.2.2.1 h.2.2.2.2.1 h.2.2.2.2.2
theorem Ew {X Y : Type} {A B C D E : X → Y → Prop} {G : Prop} (h : ∃ x y, A x y ∧ B x y ∧ C x y ∧ D x y ∧ E x y) (k : ∀ x y, A x y → B x y → C x y → D x y → E x y → G) : G := h.elim fun x h => h.elim fun y h => k x y h.1 h.2.1 h.2.2.1 h.2.2.2.1 h.2.2.2.2
theorem Jk {X Y Z : Type} {A B C D : X → Y → Z → Prop} {G : Prop} (h : ∃ x y z, A x y z ∧ B x y z ∧ C x y z ∧ D x y z) (k : ∀ x y z, A x y z → B x y z → C x y z → D x y z → G) : G := h.elim fun x h => h.elim fun y h => h.elim fun z h => k x y z h.1 h.2.1 h.2.2.1 h.2.2.2
theorem Jj {X Y Z U V W : Type} {A : X → Y → Z → U → V → W → Prop} {G : Prop} (h : ∃ x y z u v w, A x y z u v w) (k : ∀ x y z u v w, A x y z u v w → G) : G := h.elim fun x h => h.elim fun y h => h.elim fun z h => h.elim fun u h => h.elim fun v h => h.elim fun w h => k x y z u v w h
theorem Dy {A B C D E F H I : Prop} {G : Prop} (h : A ∧ B ∧ C ∧ D ∧ E ∧ F ∧ H ∧ I) (k : A → B → C → D → E → F → H → I → G) : G := k h.1 h.2.1 h.2.2.1 h.2.2.2.1 h.2.2.2.2.1 h.2.2.2.2.2.1 h.2.2.2.2.2.2.1 h.2.2.2.2.2.2.2
theorem Up {X Y Z U : Type} {A B C : Prop} {D : X → Y → Z → U → Prop} {G : Prop} (h : A ∧ B ∧ C ∧ ∃ x y z u, D x y z u) (k : A → B → C → ∀ x y z u, D x y z u → G) : G := by obtain ⟨a0, a1, a2, a3, a4, a5, a6, a7⟩ := h; exact k a0 a1 a2 a3 a4 a5 a6 a7
theorem Ek {X : Type} {A B C D E F H : X → Prop} {G : Prop} (h : ∃ x, A x ∧ B x ∧ C x ∧ D x ∧ E x ∧ F x ∧ H x) (k : ∀ x, A x → B x → C x → D x → E x → F x → H x → G) : G := h.elim fun x h => k x h.1 h.2.1 h.2.2.1 h.2.2.2.1 h.2.2.2.2.1 h.2.2.2.2.2.1 h.2.2.2.2.2.2
theorem Jx {X Y Z : Type} {A B C D E : X → Y → Z → Prop} {G : Prop} (h : ∃ x y z, A x y z ∧ B x y z ∧ C x y z ∧ D x y z ∧ E x y z) (k : ∀ x y z, A x y z → B x y z → C x y z → D x y z → E x y z → G) : G := h.elim fun x h => h.elim fun y h => h.elim fun z h => k x y z h.1 h.2.1 h.2.2.1 h.2.2.2.1 h.2.2.2.2
theorem Un {X Y Z U V W : Type} {A B : X → Y → Z → U → V → W → Prop} {G : Prop} (h : ∃ x y z u v w, A x y z u v w ∧ B x y z u v w) (k : ∀ x y z u v w, A x y z u v w → B x y z u v w → G) : G := h.elim fun x h => h.elim fun y h => h.elim fun z h => h.elim fun u h => h.elim fun v h => h.elim fun w h => k x y z u v w h.1 h.2
theorem Dh {X Y Z U V W T : Type} {A : X → Y → Z → U → V → W → T → Prop} {G : Prop} (h : ∃ x y z u v w t, A x y z u v w t) (k : ∀ x y z u v w t, A x y z u v w t → G) : G := h.elim fun x h => h.elim fun y h => h.elim fun z h => h.elim fun u h => h.elim fun v h => h.elim fun w h => h.elim fun t h => k x y z u v w t h
theorem cP {X : Type} {A B : Prop} {C D : X → Prop} {G : Prop} (h : A ∧ B ∧ ∃ x, C x ∧ D x) (k : A → B → ∀ x, C x → D x → G) : G := by obtain ⟨a0, a1, a2, a3, a4⟩ := h; exact k a0 a1 a2 a3 a4
theorem cO {X : Type} {A : Prop} {B C D : X → Prop} {G : Prop} (h : A ∧ ∃ x, B x ∧ C x ∧ D x) (k : A → ∀ x, B x → C x → D x → G) : G := by obtain ⟨a0, a1, a2, a3, a4⟩ := h; exact k a0 a1 a2 a3 a4
theorem Z3 {X Y Z U : Type} {A : X → Y → Z → U → Prop} {G : Prop} (h : ∃ x y z u, A x y z u) (k : ∀ x y z u, A x y z u → G) : G := h.elim fun x h => h.elim fun y h => h.elim fun z h => h.elim fun u h => k x y z u h
theorem aH {X : Type} {A B C D E : X → Prop} {G : Prop} (h : ∃ x, A x ∧ B x ∧ C x ∧ D x ∧ E x) (k : ∀ x, A x → B x → C x → D x → E x → G) : G := h.elim fun x h => k x h.1 h.2.1 h.2.2.1 h.2.2.2.1 h.2.2.2.2
theorem Uo {X Y Z : Type} {A B C : X → Y → Z → Prop} {G : Prop} (h : ∃ x y z, A x y z ∧ B x y z ∧ C x y z) (k : ∀ x y z, A x y z → B x y z → C x y z → G) : G := h.elim fun x h => h.elim fun y h => h.elim fun z h => k x y z h.1 h.2.1 h.2.2
theorem Xk {X Y : Type} {A : Prop} {B C D E : X → Y → Prop} {G : Prop} (h : A ∧ ∃ x y, B x y ∧ C x y ∧ D x y ∧ E x y) (k : A → ∀ x y, B x y → C x y → D x y → E x y → G) : G := by obtain ⟨a0, a1, a2, a3, a4, a5, a6⟩ := h; exact k a0 a1 a2 a3 a4 a5 a6
theorem L4 {A B C D E F H I J : Prop} {G : Prop} (h : A ∧ B ∧ C ∧ D ∧ E ∧ F ∧ H ∧ I ∧ J) (k : A → B → C → D → E → F → H → I → J → G) : G := k h.1 h.2.1 h.2.2.1 h.2.2.2.1 h.2.2.2.2.1 h.2.2.2.2.2.1 h.2.2.2.2.2.2.1 h.2.2.2.2.2.2.2.1 h.2.2.2.2.2.2.2.2
theorem Cc {A B C D E F H I J K : Prop} {G : Prop} (h : A ∧ B ∧ C ∧ D ∧ E ∧ F ∧ H ∧ I ∧ J ∧ K) (k : A → B → C → D → E → F → H → I → J → K → G) : G := k h.1 h.2.1 h.2.2.1 h.2.2.2.1 h.2.2.2.2.1 h.2.2.2.2.2.1 h.2.2.2.2.2.2.1 h.2.2.2.2.2.2.2.1 h.2.2.2.2.2.2.2.2.1 h.2.2.2.2.2.2.2.2.2
theorem yA {A B : Prop} {G : Prop} (k : A → B → G) (h : A ∧ B) : G := zA h k
theorem yAA {A B C : Prop} {G : Prop} (k : A → B → C → G) (h : A ∧ B ∧ C) : G := zAA h k
theorem yEA {X : Type} {A B : X → Prop} {G : Prop} (k : ∀ x, A x → B x → G) (h : ∃ x, A x ∧ B x) : G := zEA h k
theorem Xl {A B C D : Prop} {G : Prop} (k : A → B → C → D → G) (h : A ∧ B ∧ C ∧ D) : G := G1 h k
theorem Mm {X : Type} {A B C : X → Prop} {G : Prop} (k : ∀ x, A x → B x → C x → G) (h : ∃ x, A x ∧ B x ∧ C x) : G := A6 h k
theorem cQ {X Y Z : Type} {A : X → Y → Z → Prop} {G : Prop} (k : ∀ x y z, A x y z → G) (h : ∃ x y z, A x y z) : G := Ha h k
theorem Z4 {X : Type} {A B : Prop} {C D : X → Prop} {G : Prop} (k : A → B → ∀ x, C x → D x → G) (h : A ∧ B ∧ ∃ x, C x ∧ D x) : G := cP h k
theorem Iu {X : Type} {A : Prop} {B C D : X → Prop} {G : Prop} (k : A → ∀ x, B x → C x → D x → G) (h : A ∧ ∃ x, B x ∧ C x ∧ D x) : G := cO h k
theorem D0 {X Y Z U : Type} {A : X → Y → Z → U → Prop} {G : Prop} (k : ∀ x y z u, A x y z u → G) (h : ∃ x y z u, A x y z u) : G := Z3 h k
theorem Ur {X : Type} {A : Prop} {B C D E : X → Prop} {G : Prop} (k : A → ∀ x, B x → C x → D x → E x → G) (h : A ∧ ∃ x, B x ∧ C x ∧ D x ∧ E x) : G := Ml h k
theorem Pi {X : Type} {A B C D E : X → Prop} {G : Prop} (k : ∀ x, A x → B x → C x → D x → E x → G) (h : ∃ x, A x ∧ B x ∧ C x ∧ D x ∧ E x) : G := aH h k
theorem Uq {X Y : Type} {A B C D : X → Y → Prop} {G : Prop} (k : ∀ x y, A x y → B x y → C x y → D x y → G) (h : ∃ x y, A x y ∧ B x y ∧ C x y ∧ D x y) : G := Be h k
theorem H3 {X Y Z : Type} {A B C : X → Y → Z → Prop} {G : Prop} (k : ∀ x y z, A x y z → B x y z → C x y z → G) (h : ∃ x y z, A x y z ∧ B x y z ∧ C x y z) : G := Uo h k
theorem Jy {X Y Z U V : Type} {A : X → Y → Z → U → V → Prop} {G : Prop} (k : ∀ x y z u v, A x y z u v → G) (h : ∃ x y z u v, A x y z u v) : G := Ph h k
theorem Rj {X Y : Type} {A : Prop} {B C D E : X → Y → Prop} {G : Prop} (k : A → ∀ x y, B x y → C x y → D x y → E x y → G) (h : A ∧ ∃ x y, B x y ∧ C x y ∧ D x y ∧ E x y) : G := Xk h k
theorem Ri {X Y Z : Type} {A B C D : X → Y → Z → Prop} {G : Prop} (k : ∀ x y z, A x y z → B x y z → C x y z → D x y z → G) (h : ∃ x y z, A x y z ∧ B x y z ∧ C x y z ∧ D x y z) : G := Jk h k
theorem Ey {X Y Z U V W : Type} {A : X → Y → Z → U → V → W → Prop} {G : Prop} (k : ∀ x y z u v w, A x y z u v w → G) (h : ∃ x y z u v w, A x y z u v w) : G := Jj h k
theorem Bm {X Y Z : Type} {A B C D E : X → Y → Z → Prop} {G : Prop} (k : ∀ x y z, A x y z → B x y z → C x y z → D x y z → E x y z → G) (h : ∃ x y z, A x y z ∧ B x y z ∧ C x y z ∧ D x y z ∧ E x y z) : G := Jx h k
theorem iEA {X : Type} {A B : X → Prop} (x : X) (h0 : A x) (h1 : B x) : ∃ x, A x ∧ B x := ⟨x, h0, h1⟩
theorem Ay {X : Type} {A B C : X → Prop} (x : X) (h0 : A x) (h1 : B x) (h2 : C x) : ∃ x, A x ∧ B x ∧ C x := ⟨x, h0, h1, h2⟩
theorem Ar {X : Type} {A B C D : X → Prop} (x : X) (h0 : A x) (h1 : B x) (h2 : C x) (h3 : D x) : ∃ x, A x ∧ B x ∧ C x ∧ D x := ⟨x, h0, h1, h2, h3⟩
theorem Fb {X : Type} {A B C D E : X → Prop} (x : X) (h0 : A x) (h1 : B x) (h2 : C x) (h3 : D x) (h4 : E x) : ∃ x, A x ∧ B x ∧ C x ∧ D x ∧ E x := ⟨x, h0, h1, h2, h3, h4⟩
theorem iEE {X Y : Type} {A : X → Y → Prop} (x : X) (y : Y) (h0 : A x y) : ∃ x y, A x y := ⟨x, y, h0⟩
theorem C5 {X Y : Type} {A B : X → Y → Prop} (x : X) (y : Y) (h0 : A x y) (h1 : B x y) : ∃ x y, A x y ∧ B x y := ⟨x, y, h0, h1⟩
theorem Ba {X Y : Type} {A B C : X → Y → Prop} (x : X) (y : Y) (h0 : A x y) (h1 : B x y) (h2 : C x y) : ∃ x y, A x y ∧ B x y ∧ C x y := ⟨x, y, h0, h1, h2⟩
theorem Br {X Y : Type} {A B C D : X → Y → Prop} (x : X) (y : Y) (h0 : A x y) (h1 : B x y) (h2 : C x y) (h3 : D x y) : ∃ x y, A x y ∧ B x y ∧ C x y ∧ D x y := ⟨x, y, h0, h1, h2, h3⟩
theorem Fa {X Y : Type} {A B C D E : X → Y → Prop} (x : X) (y : Y) (h0 : A x y) (h1 : B x y) (h2 : C x y) (h3 : D x y) (h4 : E x y) : ∃ x y, A x y ∧ B x y ∧ C x y ∧ D x y ∧ E x y := ⟨x, y, h0, h1, h2, h3, h4⟩
theorem Hk {X Y Z : Type} {A : X → Y → Z → Prop} (x : X) (y : Y) (z : Z) (h0 : A x y z) : ∃ x y z, A x y z := ⟨x, y, z, h0⟩
theorem Ix {X Y Z : Type} {A B : X → Y → Z → Prop} (x : X) (y : Y) (z : Z) (h0 : A x y z) (h1 : B x y z) : ∃ x y z, A x y z ∧ B x y z := ⟨x, y, z, h0, h1⟩
theorem Wh {X Y Z : Type} {A B C : X → Y → Z → Prop} (x : X) (y : Y) (z : Z) (h0 : A x y z) (h1 : B x y z) (h2 : C x y z) : ∃ x y z, A x y z ∧ B x y z ∧ C x y z := ⟨x, y, z, h0, h1, h2⟩
theorem Nb {X Y Z : Type} {A B C D : X → Y → Z → Prop} (x : X) (y : Y) (z : Z) (h0 : A x y z) (h1 : B x y z) (h2 : C x y z) (h3 : D x y z) : ∃ x y z, A x y z ∧ B x y z ∧ C x y z ∧ D x y z := ⟨x, y, z, h0, h1, h2, h3⟩
theorem Bn {X Y Z : Type} {A B C D E : X → Y → Z → Prop} (x : X) (y : Y) (z : Z) (h0 : A x y z) (h1 : B x y z) (h2 : C x y z) (h3 : D x y z) (h4 : E x y z) : ∃ x y z, A x y z ∧ B x y z ∧ C x y z ∧ D x y z ∧ E x y z := ⟨x, y, z, h0, h1, h2, h3, h4⟩
theorem Sc {X Y Z U : Type} {A : X → Y → Z → U → Prop} (x : X) (y : Y) (z : Z) (u : U) (h0 : A x y z u) : ∃ x y z u, A x y z u := ⟨x, y, z, u, h0⟩
theorem E8 {X Y Z U V : Type} {A : X → Y → Z → U → V → Prop} (x : X) (y : Y) (z : Z) (u : U) (v : V) (h0 : A x y z u v) : ∃ x y z u v, A x y z u v := ⟨x, y, z, u, v, h0⟩
theorem Du {X Y Z U V W : Type} {A : X → Y → Z → U → V → W → Prop} (x : X) (y : Y) (z : Z) (u : U) (v : V) (w : W) (h0 : A x y z u v w) : ∃ x y z u v w, A x y z u v w := ⟨x, y, z, u, v, w, h0⟩
theorem Dj {X Y Z U V W T : Type} {A : X → Y → Z → U → V → W → T → Prop} (x : X) (y : Y) (z : Z) (u : U) (v : V) (w : W) (t : T) (h0 : A x y z u v w t) : ∃ x y z u v w t, A x y z u v w t := ⟨x, y, z, u, v, w, t, h0⟩
theorem Gj {X Y Z U : Type} {A B C D E : X → Y → Z → U → Prop} (x : X) (y : Y) (z : Z) (u : U) (h0 : A x y z u) (h1 : B x y z u) (h2 : C x y z u) (h3 : D x y z u) (h4 : E x y z u) : ∃ x y z u, A x y z u ∧ B x y z u ∧ C x y z u ∧ D x y z u ∧ E x y z u := ⟨x, y, z, u, h0, h1, h2, h3, h4⟩
theorem B5 {X Y Z U : Type} {A B C D E F : X → Y → Z → U → Prop} (x : X) (y : Y) (z : Z) (u : U) (h0 : A x y z u) (h1 : B x y z u) (h2 : C x y z u) (h3 : D x y z u) (h4 : E x y z u) (h5 : F x y z u) : ∃ x y z u, A x y z u ∧ B x y z u ∧ C x y z u ∧ D x y z u ∧ E x y z u ∧ F x y z u := ⟨x, y, z, u, h0, h1, h2, h3, h4, h5⟩
theorem Bf {X Y Z : Type} {A B C D E F H I J : X → Y → Z → Prop} (x : X) (y : Y) (z : Z) (h0 : A x y z) (h1 : B x y z) (h2 : C x y z) (h3 : D x y z) (h4 : E x y z) (h5 : F x y z) (h6 : H x y z) (h7 : I x y z) (h8 : J x y z) : ∃ x y z, A x y z ∧ B x y z ∧ C x y z ∧ D x y z ∧ E x y z ∧ F x y z ∧ H x y z ∧ I x y z ∧ J x y z := ⟨x, y, z, h0, h1, h2, h3, h4, h5, h6, h7, h8⟩
theorem Bb {X Y Z U : Type} {A B C D E F H I J K : X → Y → Z → U → Prop} (x : X) (y : Y) (z : Z) (u : U) (h0 : A x y z u) (h1 : B x y z u) (h2 : C x y z u) (h3 : D x y z u) (h4 : E x y z u) (h5 : F x y z u) (h6 : H x y z u) (h7 : I x y z u) (h8 : J x y z u) (h9 : K x y z u) : ∃ x y z u, A x y z u ∧ B x y z u ∧ C x y z u ∧ D x y z u ∧ E x y z u ∧ F x y z u ∧ H x y z u ∧ I x y z u ∧ J x y z u ∧ K x y z u := ⟨x, y, z, u, h0, h1, h2, h3, h4, h5, h6, h7, h8, h9⟩
theorem Gk {X : Type} {A B C D E F H I : X → Prop} (x : X) (h0 : A x) (h1 : B x) (h2 : C x) (h3 : D x) (h4 : E x) (h5 : F x) (h6 : H x) (h7 : I x) : ∃ x, A x ∧ B x ∧ C x ∧ D x ∧ E x ∧ F x ∧ H x ∧ I x := ⟨x, h0, h1, h2, h3, h4, h5, h6, h7⟩
theorem bd2 {a b : Bool} (h : (a && b) = true) : a = true ∧ b = true := (Bool.and_eq_true a b).mp h
theorem bd3 {a b c : Bool} (h : (a && b && c) = true) : (a = true ∧ b = true) ∧ c = true := ⟨bd2 (bd2 h).1, (bd2 h).2⟩
theorem bd4 {a b c d : Bool} (h : (a && b && c && d) = true) : ((a = true ∧ b = true) ∧ c = true) ∧ d = true := ⟨bd3 (bd2 h).1, (bd2 h).2⟩
theorem bd5 {a b c d e : Bool} (h : (a && b && c && d && e) = true) : (((a = true ∧ b = true) ∧ c = true) ∧ d = true) ∧ e = true := ⟨bd4 (bd2 h).1, (bd2 h).2⟩
theorem bd6 {a b c d e f : Bool} (h : (a && b && c && d && e && f) = true) : ((((a = true ∧ b = true) ∧ c = true) ∧ d = true) ∧ e = true) ∧ f = true := ⟨bd5 (bd2 h).1, (bd2 h).2⟩
theorem lsc (n m : Nat) (h : m ≤ n) : n - m + m = n := Nat.sub_add_cancel h
theorem lsz (n m : Nat) (h : n ≤ m) : n - m = 0 := Nat.sub_eq_zero_of_le h
theorem lnn (a : Int) (h : 0 ≤ a) : (a.natAbs : Int) = a := Int.natAbs_of_nonneg h
theorem lnq (a : Int) (h : a ≤ 0) : (a.natAbs : Int) = -a := Int.ofNat_natAbs_of_nonpos h
theorem ltn (a : Int) (h : 0 ≤ a) : (a.toNat : Int) = a := Int.toNat_of_nonneg h
theorem ltz (a : Int) (h : a ≤ 0) : a.toNat = 0 := Int.toNat_of_nonpos h
theorem lna (a : Int) : a ≤ a.natAbs := Int.le_natAbs
theorem lnb (a : Int) : -a ≤ a.natAbs := Int.natAbs_neg a ▸ Int.le_natAbs
theorem lnl {a b : Int} (h : a ≤ b) (h' : -a ≤ b) : (a.natAbs : Int) ≤ b := (Int.le_total 0 a).elim (fun t => lnn a t ▸ h) (fun t => lnq a t ▸ h')
theorem lnk {a b : Int} (h : a < b) (h' : -a < b) : (a.natAbs : Int) < b := (Int.le_total 0 a).elim (fun t => lnn a t ▸ h) (fun t => lnq a t ▸ h')
theorem bdi {a b : Bool} (h : a = true) (k : b = true) : (a && b) = true := (Bool.and_eq_true a b).mpr ⟨h, k⟩
theorem ln (N : Nat) (ns : List Nat) : Q.D N (ns, []) := lq N ns []
theorem lz (N : Nat) (zs : List Int) : Q.D N ([], zs) := lq N [] zs
end Mine
end
noncomputable section
namespace Mine
theorem o0 {a b : Nat} : a = 8388600 → b = 262144 → b ≤ a := ln 0x2212100400005fb027ffff86fb122 [b, a]
theorem o1 {a : Int} : a < 0 → (↑a.natAbs : Int) = -a := fun h1 => lq 0x12220d0e80d0e81 [a.natAbs] [a] (lnq a (lz 0x2220b060b071 [a] h1))
theorem o2 {a : Nat} : 0 + (↑a : Int) = (↑a : Int) := Int.zero_add _
theorem o3 {a : Int} : 1 ≤ a → 0 ≤ a := lz 0x22200b601b61 [a]
theorem o4 {a : Int} : 0 < a → a ≠ 0 := fun h1 => (Int.ne_of_gt h1)
theorem o5 {a : Int} : ¬a < 0 → (↑a.natAbs : Int) = a := fun h1 => lq 0x122200e800e81 [a.natAbs] [a] (lnn a (lz 0x22200b60b0a1 [a] h1))
theorem o6 {a b : Nat} : (↑a : Int) + (↑b : Int) = (↑(a + b) : Int) := ln 0x2210ae1e0ea80 [a, b]
theorem o7 {a b c : Nat} : a = b → c < b → c < a := fun h1 h2 => (Nat.lt_of_lt_of_eq h2 (Eq.symm h1))
theorem o8 {a : Nat} : (↑a : Int) + 1 = (↑(a + 1) : Int) := ln 0x221b0ae1b0ea80 [a]
theorem o9 {a : Int} : 0 < a → a ≤ 67108864 → 0 ≤ a := fun h1 h2 => (Int.le_of_lt h1)
theorem o10 {a b : Nat} : 0 + (↑a : Int) < (↑b : Int) → a < b := ln 0x2221011e0e0ba71 [a, b]
theorem o11 {a b : Nat} : 0 < a → b = a → (↑a : Int) - 1 = (↑(a - 1) : Int) := fun h1 _ => ln 0x22121e1b0ec801b1a21 [a, a - 1] (lsc a 1 (ln 0x22201b000b11 [a] h1))
theorem o12 {a : Nat} : a ≤ 0 → a = 0 := fun h1 => (Nat.eq_zero_of_le_zero h1)
theorem o13 : 0 < 2 := Nat.succ_pos _
theorem o14 : 0 < 3 := Nat.succ_pos _
theorem o15 : 1 < 3 := (by decide)
theorem o16 : 2 < 3 := (by decide)
theorem o17 {a : Nat} : a + a ≤ 2 * a := ln 0x2202800a00 [a]
theorem o18 : 1 < 2 := (by decide)
theorem o19 {a : Int} : 134217728 ≤ a → 1 ≤ a := lz 0x22201b6080000007fb61 [a]
theorem o20 {a b : Int} : a + 8192 ≤ b → a ≤ b := lz 0x222106120004fb0a61 [a, b]
theorem o21 {a b c : Nat} : a < b → c = b → a < c := fun h1 h2 => (Nat.lt_of_lt_of_eq h1 (Eq.symm h2))
theorem o22 {a b : Nat} : a ≤ 8 → b < a → b < 8 := fun h1 h2 => (Nat.lt_of_lt_of_le h2 h1)
theorem o23 {a : Int} : 0 ≤ (↑a.natAbs : Int) := Int.natCast_nonneg _
theorem o24 {a : Nat} : 0 < a → a - 1 < a := fun h1 => (Nat.sub_one_lt_of_lt h1)
theorem o25 {a b c d e : Nat} : a + b < c → d = c → e < b → a + e < d := ln 0x22122210a1311422430a13 [a, e, d, b, c]
theorem o26 {a b c d : Nat} : a + b < c → d = c → a + b < d := fun h1 h2 => (Nat.lt_of_lt_of_eq h1 (Eq.symm h2))
theorem o27 {a b c d e f g : Nat} : a = b → c = d → e = d → f = d → (↑b : Int) + 1 + (↑g : Int) < (↑d : Int) → b + 1 + g < f := fun _ _ _ h4 h5 => ln 0x2212211b0aa13e1e1b0eaa73222 [b, g, f, d] h4 h5
theorem o28 {a b : Nat} : a < b + 1 → a ≥ b → a = b := fun h1 h2 => (Nat.eq_of_le_of_lt_succ h2 h1)
theorem o29 {a : Int} : (↑a.natAbs : Int) ≤ 75 → (↑a.natAbs : Int) ≤ 9007199254740992 := ln 0x22220000000000000efb0e64b2fb0e61 [a.natAbs]
theorem o30 {a b : Int} : 0 < a → a ≤ b → b ≤ 67108864 → (↑a.natAbs : Int) ≤ 67108864 := fun h1 h2 h3 => lq 0x2222240000007fb0e600e840000007fb161063 [a.natAbs] [a, b] h2 h3 (lnn a (lz 0x22200b600b71 [a] h1))
theorem o31 {a b : Int} : 0 < a → a ≤ b → b ≤ 67108864 → (↑b.natAbs : Int) ≤ 67108864 := fun h1 h2 h3 => lq 0x222240000007fb0e600e840000007fb062 [b.natAbs] [b] h3 (lnn b (lz 0x222200b601610b72 [b, a] h1 h2))
theorem o32 {a : Int} : 0 < a → 0 ≤ a := fun h1 => (Int.le_of_lt h1)
theorem o33 {a : Nat} : 0 < a → a - 1 ≤ a := fun h1 => Nat.sub_le _ _
theorem o34 {a : Nat} : ¬(↑a : Int) < 0 := ln 0x220b0ea0 [a]
theorem o35 {a : Int} : 0 < a → a < 256 → 0 ≤ a := fun h1 h2 => (Int.le_of_lt h1)
theorem o36 {a : Int} : 0 ≤ a ∧ a < 256 → a ≤ 255 := fun h1 => lz 0x222ff2fb061003fb071 [a] h1.2
theorem o37 {a : Int} : 0 < a ∧ a < 256 → 0 ≤ a := fun h1 => lz 0x22200b600b71 [a] h1.1
theorem o38 {a b : Nat} : a = 8388600 → b = 262144 → b + b ≤ a := ln 0x2412100a0400005fb027ffff86fb122 [b, a]
theorem o39 {a : Nat} : 0 ≤ (↑a : Int) := Int.natCast_nonneg _
theorem o40 {a : Nat} : a + 2 ≤ a + 9 := ln 0x229b0a2b0a00 [a]
theorem o41 {a : Nat} : a + 1 ≤ a + 9 := ln 0x229b0a1b0a00 [a]
theorem o42 {a : Int} : (↑a.natAbs : Int) ≤ 11250 → (↑a.natAbs : Int) ≤ 9007199254740992 := ln 0x22220000000000000efb0e62bf24fb0e61 [a.natAbs]
theorem o43 : 3 ≤ 1000 := Nat.le_add_left _ _
theorem o44 {a : Int} : (↑a.natAbs : Int) ≤ 67108864 → (↑a.natAbs : Int) ≤ 9007199254740992 := ln 0x22220000000000000efb0e640000007fb0e61 [a.natAbs]
theorem o45 {a : Nat} : a < 1 → a = 0 := ln 0x2220b021b011 [a]
theorem o46 {a : Int} : a ≤ 0 → 0 ≤ -a := lz 0x2220d0b60b061 [a]
theorem o47 {a b : Int} : a ≤ b → 1 ≤ a → 0 ≤ b := lz 0x222200b611b60162 [b, a]
theorem o48 {a : Int} : 134217728 ≤ a → 0 ≤ a := lz 0x22200b6080000007fb61 [a]
theorem o49 {a : Int} : 1 ≤ a → a ≠ 0 := lz 0x2220b0b01b61 [a]
theorem o50 {a b : Int} : 0 < a → a ≤ b → 0 < b := fun h1 h2 => (Int.lt_of_lt_of_le h1 h2)
theorem o51 {a b : Int} : a < b → a ≤ b := fun h1 => (Int.le_of_lt h1)
theorem o52 : 2 ≤ 2 := Nat.le_refl _
theorem o53 {a : Nat} : a < a + 1 := Nat.lt_succ_self _
theorem o54 {a : Nat} : a = 8388600 → a - 8 ≤ a := fun h1 => Nat.sub_le _ _
theorem o55 {a b c : Nat} : ¬(↑a : Int) ≠ (↑b : Int) → -1 < (↑a : Int) - 1 - (↑c : Int) → (↑a : Int) - 1 - (↑c : Int) = (↑(a - 1 - c) : Int) := fun _ h2 => ln 0x2221122e1e1b0ecc801b3a2312a22 [a, c, a - 1 - c, a - 1] (lsc (a - 1) c (ln 0x22121000e1b2ecc1bd721b1a22 [c, a - 1, a] (lsc a 1 (ln 0x22201b01e1b0ecc1bd71 [a, c] h2)) h2)) (lsc a 1 (ln 0x22201b01e1b0ecc1bd71 [a, c] h2))
theorem o56 {a b c : Nat} : ¬(↑a : Int) ≠ (↑b : Int) → -1 < (↑a : Int) - 1 - (↑c : Int) → a - 1 - c < a := fun _ h2 => ln 0x222210111b3a2320a22 [a - 1 - c, a, c, a - 1] (lsc (a - 1) c (ln 0x22121000e1b2ecc1bd721b1a22 [c, a - 1, a] (lsc a 1 (ln 0x22201b01e1b0ecc1bd71 [a, c] h2)) h2)) (lsc a 1 (ln 0x22201b01e1b0ecc1bd71 [a, c] h2))
theorem o57 {a b c : Nat} : ¬(↑a : Int) ≠ (↑b : Int) → -1 < (↑a : Int) - 1 - (↑c : Int) → a - 1 - c < b := fun h1 h2 => ln 0x2222210121b4a2430a21e2e83 [a - 1 - c, b, a, c, a - 1] (Classical.not_not.mp h1) (lsc (a - 1) c (ln 0x22121000e1b2ecc1bd721b1a22 [c, a - 1, a] (lsc a 1 (ln 0x22201b01e1b0ecc1bd71 [a, c] h2)) h2)) (lsc a 1 (ln 0x22201b01e1b0ecc1bd71 [a, c] h2))
theorem o58 {a b : Nat} : 2 * a + 16 ≤ b → a ≤ b := ln 0x2241001102fb028a01 [a, b]
theorem o59 {a b c : Nat} : a = b → b + 1 < c → b < c := fun h1 h2 => (Nat.lt_trans (Nat.le_sub_one_of_lt h2) (Nat.sub_one_lt_of_lt h2))
theorem o60 {a b : Nat} : a = 8388600 → b = 262144 → b ≤ a - 8 := fun h1 h2 => ln 0x2121210028b1a2400005fb027ffff86fb223 [b, a - 8, a] h1 h2 (lsc a 8 (ln 0x21208b07ffff86fb021 [a] h1))
theorem o61 {a b c : Nat} : a = b + 1 → c = b + 1 → b < c := fun _ h2 => ln 0x2121011b0a121 [b, c] h2
theorem o62 {a : Nat} : a ≤ 1000 → a ≤ 16777216 := ln 0x22210000007fb003e83fb001 [a]
theorem o63 {a b : Nat} : a < b → b + 1 - (a + 1) < b + 1 - a := fun h1 => ln 0x21221011b3a21a21b3a1b2a0a22 [b + 1 - (a + 1), b + 1 - a, a, b] (lsc (b + 1) (a + 1) (ln 0x2221b1a1b0a01011 [a, b] h1)) (lsc (b + 1) a (ln 0x2221b1a001011 [a, b] h1))
theorem o64 {a : Int} : 0 ≤ a → 0 ≤ a + 1 := lz 0x2221b0a0b600b61 [a]
theorem o65 {a b : Nat} : a - 1 + 1 = a → b < a - 1 + 1 → b < a := ln 0x22221011b2a0111b2a22 [b, a, a - 1]
theorem o66 {a : Nat} {b : Prop} {c : Int} : a = 2 ∨ a = 3 → (a = 2 → b) → c ≠ 0 → a + 1 ≤ 1000 := fun h1 _ _ => Or.elim h1 (fun zt2 => ln 0x2223e83fb1b0a02b021 [a] zt2) (fun zt2 => ln 0x2223e83fb1b0a03b021 [a] zt2)
theorem o67 : 0 < 1 := Nat.succ_pos _
theorem o68 : 2 ≤ 1000 := Nat.le_add_left _ _
theorem o69 {a : Nat} {b c d : Prop} : a = 3 → a = 2 → a = 3 ∧ b ∨ a = 2 ∧ c ∧ d := fun h1 h2 => False.elim (ln 0x2210f2b023b022 [a] h1 h2)
theorem o70 {a : Nat} {b c : Int} : a = 3 → a = 2 → b = c := lq 0x2102101082b023b022 [a] [b, c]
theorem o71 {a : Nat} : a ≤ 3 → a ≤ 1000 := ln 0x2223e83fb003b001 [a]
theorem o72 {a b : Nat} : a < b → a + 1 < b + 1 := fun h1 => (Nat.lt_succ_of_le h1)
theorem o73 {a b : Nat} : a < b → a < b + 1 := ln 0x2221b1a011011 [a, b]
theorem o74 {a : Nat} : a ≤ 12 → a ≤ 13 := fun h1 => (Nat.le_succ_of_le h1)
theorem o75 {a : Nat} : 0 < a → a - 1 + 1 = a := fun h1 => (Nat.sub_add_cancel h1)
theorem o76 {a b : Nat} : a + 1 ≤ b → a ≤ b := fun h1 => (Nat.le_of_lt h1)
theorem o77 {a : Nat} : ¬0 < (↑a : Int) → a = 0 := ln 0x2220b020e0ba1 [a]
theorem o78 {a b : Nat} : a ≤ 7 → b = 7 - a → b < 8 := fun h1 h2 => ln 0x22228b017b21a21022 [b, 7 - a, a] h2 (lsc 7 a (ln 0x2227b007b001 [a] h1))
theorem o79 {a : Nat} : a = 8388600 → a - 16 ≤ a := fun h1 => Nat.sub_le _ _
theorem o80 {a : Nat} : a + 3 ≤ a + 6 := ln 0x226b0a3b0a00 [a]
theorem o81 {a b c : Nat} : a = b → c < a → c < b := fun h1 h2 => (Nat.lt_of_lt_of_eq h2 h1)
theorem o82 {a b c : Nat} : a ≤ b → 0 + (↑c : Int) < (↑a : Int) → c < b := ln 0x22221012e0e0ba71202 [c, b, a]
theorem o83 {a b : Nat} : 0 + (↑a : Int) < (↑b : Int) → a + 1 ≤ b := ln 0x22211b0a01e0e0ba71 [a, b]
theorem o84 {a b : Int} : 0 ≤ (a + b) % 256 := lz 0x22200b600b61 [(a + b) % 256] (Int.emod_nonneg (b := 256) (a + b) (by decide))
theorem o85 {a b : Int} : (a + b) % 256 < 256 := lz 0x2221003fb071003fb071 [(a + b) % 256] (Int.emod_lt_of_pos (b := 256) (a + b) (by decide))
theorem o86 {a b c : Nat} : a = 8388600 → b ≤ a → c = b → c < 16777216 := ln 0x2222210000007fb012021207ffff86fb123 [c, a, b]
theorem o87 {a : Nat} : a ≤ 64 → (↑a : Int) + 8 ≤ 67108864 := ln 0x22240000007fb8b0ea6402fb001 [a]
theorem o88 {a : Int} : 0 ≤ a ∧ a < 256 → a < 256 := fun h1 => (And.right h1)
theorem o89 {a : Int} : 0 < a → a < 256 → a ≠ 0 := fun h1 h2 => (Int.ne_of_gt h1)
theorem o90 {a b c : Nat} : a = b → -1 < (↑b : Int) - 1 - (↑c : Int) → b - 1 - c < a := fun h1 h2 => ln 0x2221210121b4a2430a22123 [b - 1 - c, a, b, c, b - 1] h1 (lsc (b - 1) c (ln 0x22121000e1b2ecc1bd721b1a22 [c, b - 1, b] (lsc b 1 (ln 0x22201b01e1b0ecc1bd71 [b, c] h2)) h2)) (lsc b 1 (ln 0x22201b01e1b0ecc1bd71 [b, c] h2))
theorem o91 {a b c d e f : Nat} : a = b + c → d < b → e = b + c → f < c → d + f < e := fun _ h2 h3 h4 => ln 0x22122210a141143a223013 [d, f, e, b, c] h2 h3 h4
theorem o92 {a b : Nat} : a + (b + 1) = a + 1 + b := ln 0x2211b0aa1b1a0a20 [a, b]
theorem o93 {a b : Nat} : a = 8388600 → b = 262144 → 2 * b + 1 ≤ a := ln 0x241211b028a0400005fb027ffff86fb122 [b, a]
theorem o94 {a b : Nat} : a = 8388600 → b = 262144 → 2 * b + 1 ≤ a - 8 := fun h1 h2 => ln 0x2141211b028a028b1a2400005fb027ffff86fb223 [b, a - 8, a] h1 h2 (lsc a 8 (ln 0x21208b07ffff86fb021 [a] h1))
theorem o95 {a : Nat} : a + 6 ≤ a + 6 := Nat.le_refl _
theorem o96 {a b : Nat} : a < a + 1 + b := ln 0x2211b0aa010 [a, b]
theorem o97 {a : Nat} : 0 < (↑a : Int) → 0 < a := ln 0x22200b10e0b71 [a]
theorem o98 {a b : Nat} : a = b → b < a + 1 := ln 0x2121b1a010121 [b, a]
theorem o99 {a b : Nat} : a ≤ b → a + 1 ≤ b + 1 := fun h1 => (Nat.succ_le_succ h1)
theorem bE {a : Nat} : a - 1 + 1 = a → a = a - 1 + 1 := ln 0x22121b1a0201b1a21 [a, a - 1]
theorem bD {a b c : Nat} : a < b → c = b + 1 → a < c := fun h1 h2 => (Nat.lt_of_lt_of_eq (Nat.le_succ_of_le h1) (Eq.symm h2))
theorem bC {a : Nat} {b : Prop} {c d e f : Int} : a = 2 ∨ a = 3 → (a = 2 → b) → c ≠ 0 → (a = 3 → d = e * f) → (a = 2 → d = e) → a ≤ 1000 := fun h1 _ _ _ _ => Or.elim h1 (fun zt2 => ln 0x2223e83fb002b021 [a] zt2) (fun zt2 => ln 0x2223e83fb003b021 [a] zt2)
theorem dN {a b : Nat} : a ≤ b → min a b = a := fun h1 => ln 0x12221021021 [min a b, a] (Nat.min_eq_left (ln 0x2221001001 [a, b] h1))
theorem dM {a : Nat} : a < 8 → (↑a : Int) / 8 = 0 := fun h1 => lq 0x1200102f2022102f0b080e1088a88b1710b68b014 [a] [(↑a : Int) / 8, (↑a : Int) % 8] h1 (Int.emod_nonneg (b := 8) ((↑a : Int)) (by decide)) (Int.emod_lt_of_pos (b := 8) ((↑a : Int)) (by decide)) (Int.mul_ediv_add_emod ((↑a : Int)) 8)
theorem dL {a : Nat} : a < 8 → (↑a : Int) % 8 = (↑a : Int) := by intros; lia
theorem dK {a b c : Nat} : a < b ∨ b + (c + 1) ≤ a → b + c ≠ a := fun h1 => Or.elim h1 (fun zt2 => ln 0x222210a50211 [b, c, a] zt2) (fun zt2 => ln 0x221210a521b1a0a01 [b, c, a] zt2)
theorem dJ {a b c : Nat} : a < b ∨ b + (c + 1) ≤ a → a < b ∨ b + c ≤ a := fun h1 => Or.elim h1 (fun zt2 => Or.inl (ln 0x2221011011 [a, b] zt2)) (fun zt2 => Or.inr (ln 0x222210a021b1a0a01 [b, c, a] zt2))
theorem dI {a b c : Nat} : a < b ∨ b + c < a → a < b ∨ b + c ≤ a := fun h1 => Or.elim h1 (fun zt2 => Or.inl (ln 0x2221011011 [a, b] zt2)) (fun zt2 => Or.inr (ln 0x222210a0210a11 [b, c, a] zt2))
theorem dH {a b c d e f g : Nat} : a ≤ b → b = 8388600 → 2 ≤ c → c < a → d = a → e = a - c - 1 - f → (↑a : Int) - (↑c : Int) - 1 - (↑f : Int) = (↑e : Int) → e + c < a → g = d → c + 1 ≤ g - e := by intros; lia
theorem dG {a b c d e f g h : Nat} : a ≤ b → b = 8388600 → 2 ≤ c → c < a → d = a → e = a - c - 1 - f → (↑a : Int) - (↑c : Int) - 1 - (↑f : Int) = (↑e : Int) → e + c < a → g = d → h = g → c + 1 ≤ h - e := by intros; lia
theorem gJ {a : Nat} : a + 1 ≤ a + 6 := ln 0x226b0a1b0a00 [a]
theorem gI {a b c : Nat} : a ≤ 8 → b < a → c < b → c < 8 := ln 0x222228b012011218b103 [c, a, b]
theorem gH {a b : Nat} : a < b → ¬a = b := fun h1 => (Nat.ne_of_lt h1)
theorem dF : 1 < 20 := (by decide)
theorem dD {a : Nat} {b : Prop} {c : Int} : a = 2 ∨ a = 3 → (a = 2 → b) → c ≠ 0 → a ≤ 1000 := fun h1 _ _ => Or.elim h1 (fun zt2 => ln 0x2223e83fb002b021 [a] zt2) (fun zt2 => ln 0x2223e83fb003b021 [a] zt2)
theorem gG {a b c d e f : Int} : a * b + c * d + e * f = c * d + a * b + e * f := lz 0x22201aa210aa80 [a * b, c * d, e * f]
theorem gF {a b c d e f : Int} : a * b + c * d + e * f = a * b + e * f + c * d := lz 0x22120aa210aa80 [a * b, c * d, e * f]
theorem gE {a b c d e : Int} : 1 ≤ a → 1 ≤ b → c = a → d = b → e < d → 4 * (c + e).toNat + 2 < 4 * (a + b).toNat + (3 - 2) := by intros; lia
theorem gC {a : Int} {b : Nat} : 0 ≤ a → (0 < b ↔ 0 < a) → (0 < (↑b : Int) ↔ -a < 0) := by intros; omega
theorem gB {a : Nat} {b : Int} : (0 < a ↔ 0 < (↑b.natAbs : Int)) → (↑a : Int) = 0 → b = 0 := fun h1 h2 => lq 0x22220220b080e060e0d60e0ba3 [b.natAbs] [b] (fun zt => absurd (h1.mpr zt) (ln 0x22200b40b0e81 [a] h2)) (lnb b) (lna b)
theorem gA {a : Nat} {b : Int} : (0 < a ↔ 0 < (↑b.natAbs : Int)) → ¬(↑a : Int) = 0 → ¬b = 0 := by intros; lia
theorem fZ {a b : Int} : ¬(a < 0 ↔ b < 0) → a < 0 → a < b := by intros; lia
theorem fY {a b : Int} : ¬(a < 0 ↔ b < 0) → ¬a < 0 → ¬a = b := by intros; lia
theorem fX {a b : Int} : ¬(a < 0 ↔ b < 0) → b < 0 → a + b = -((↑b.natAbs : Int) - (↑a.natAbs : Int)) := by intros; lia
theorem fW {a b : Int} : ¬(a < 0 ↔ b < 0) → ¬a < 0 → a + b = (↑a.natAbs : Int) - (↑b.natAbs : Int) := by intros; lia
theorem fV {a : Int} {b : Nat} {c : Prop} : a ≠ 0 → (0 < b ↔ 0 < (↑a.natAbs : Int)) → (↑b : Int) = 0 → c := fun h1 h2 h3 => False.elim (lq 0x22220f0e0d60b070e0ba3 [a.natAbs] [a] (fun zt => absurd (h2.mpr zt) (ln 0x22200b40b0e81 [b] h3)) (Int.lt_iff_le_and_ne.mpr ⟨lq 0x22220b060e0ba0e062 [a.natAbs] [a] (lna a) (fun zt => absurd (h2.mpr zt) (ln 0x22200b40b0e81 [b] h3)), h1⟩) (lnb a))
theorem fU {a : Int} {b : Nat} : a ≠ 0 → (0 < b ↔ 0 < (↑a.natAbs : Int)) → 0 < (↑a.natAbs : Int) := by intros; lia
theorem fT {a b : Int} : 0 < a → 0 ≤ b → (b < 0 ↔ a < 0) := by intros; lia
theorem fS {a : Nat} {b c : Int} {d : Prop} : (0 < a ↔ 0 < (↑b.natAbs : Int)) → (b = 0 ∨ ¬c < 0 → d) → 0 < (↑a : Int) → b ≠ 0 := by intros; lia
theorem fR {a b c : Int} : 0 ≤ (↑a.natAbs : Int) / (↑b.natAbs : Int) → c = -((↑a.natAbs : Int) / (↑b.natAbs : Int)) → -((↑a.natAbs : Int) / (↑b.natAbs : Int) + 1) = -((↑c.natAbs : Int) + 1) := fun h1 h2 => lq 0x1222121b0ead1b0ad81d0e80d182 [c.natAbs] [(↑a.natAbs : Int) / (↑b.natAbs : Int), c] h2 (lnq c (lz 0x22220b061d0810b62 [c, (↑a.natAbs : Int) / (↑b.natAbs : Int)] h1 h2))
theorem fQ {a : Nat} {b c : Int} {d : Prop} : (0 < a ↔ 0 < (↑b.natAbs : Int)) → (b = 0 ∨ ¬c < 0 → d) → ¬0 < (↑a : Int) → b = 0 := fun h1 _ h3 => lq 0x22220220b080e060e0d60e0ba3 [b.natAbs] [b] (fun zt => absurd (h1.mpr zt) (ln 0x22200b40e0ba1 [a] h3)) (lnb b) (lna b)
theorem fP {a b c : Int} : (↑a.natAbs : Int) < b → c = b * 256 → (↑(2 * a).natAbs : Int) < c := fun h1 h2 => lnk (lq 0x2412003f2102870e0621003f91820e73 [a.natAbs] [a, c, b] h1 h2 (lna a)) (lq 0x2412003f21028d70e0d621003f91820e73 [a.natAbs] [a, c, b] h1 h2 (lnb a))
theorem fO {a b : Nat} : ¬(↑a : Int) ≠ (↑b : Int) → a - ((↑a : Int) - 1 - -1).toNat = 0 := fun _ => ln 0x2121220b021bd1b2ecc1e8210a22 [a - ((↑a : Int) - 1 - -1).toNat, ((↑a : Int) - 1 - -1).toNat, a] (lsc a (((↑a : Int) - 1 - -1).toNat) (ln 0x2221001bd1b1ecc0e81 [((↑a : Int) - 1 - -1).toNat, a] (ltn ((↑a : Int) - 1 - -1) (ln 0x221bd1b0ecc0b60 [a])))) (ltn ((↑a : Int) - 1 - -1) (ln 0x221bd1b0ecc0b60 [a]))
theorem fN {a b c d e f g h i : Int} : a + b * c = d + e → 0 ≤ e → f + g * 0 = h + e → i ≤ h → i ≤ f := fun _ h2 h3 h4 => lz 0x2212210640624a3091a820b63 [i, f, e, g, h] h2 h3 h4
theorem fM {a b : Int} : 0 < a ∧ a < 256 → 0 ≤ b → b < 256 → (256 - (b + a)).toNat < (256 - b).toNat := by intros; lia
theorem fL {a b : Int} : 0 ≤ a → a ≤ 1 → 0 ≤ b ∧ b < 256 → (b + a) / 256 = 0 ∨ (b + a) / 256 = 1 := by intros; lia
theorem fK {a b : Int} : a ≤ b → b ≤ a + 1 → b = a ∨ b = a + 1 := by intros; lia
theorem fJ {a b c d e : Nat} : a = b → c = b - d - 1 - e → (↑b : Int) - (↑d : Int) - 1 - (↑e : Int) = (↑c : Int) → b - d - e = c + 1 := fun _ _ h3 => ln 0x111222221b1a02235a2540a21e4e1b3e2eccc83 [b - d - e, c, b, d, e, b - d] h3 (lsc (b - d) e (ln 0x21121004e0e1b2e3eccc8321a22 [e, b - d, d, b, c, b - d - 1 - e] (lsc b d (ln 0x2121002e4e1b0e1eccc81 [d, b, c, b - d - 1 - e, e] h3)) h3)) (lsc b d (ln 0x2121002e4e1b0e1eccc81 [d, b, c, b - d - 1 - e, e] h3))
theorem fH {a b c d e f : Nat} : a = b → c = b - d - 1 - e → (↑b : Int) - (↑d : Int) - 1 - (↑e : Int) = (↑c : Int) → f < b - d - (e + 1) → c ≠ f := by intros; lia
theorem fG {a b c d e f : Nat} : a = b → c = b - d - 1 - e → (↑b : Int) - (↑d : Int) - 1 - (↑e : Int) = (↑c : Int) → f < b - d - (e + 1) → f < c + 1 := by intros; lia
theorem fE {a b : Int} : (↑a.natAbs : Int) < b → (↑(2 * a).natAbs : Int) < b * 256 := fun h1 => lnk (lq 0x242003f211003f902870e0610e72 [a.natAbs] [a, b] h1 (lna a)) (lq 0x242003f211003f9028d70e0d610e72 [a.natAbs] [a, b] h1 (lnb a))
theorem fD {a : Nat} : 0 < a → max 1 ((↑a : Int) - 1) = (↑(max 1 (a - 1)) : Int) := by intros; lia
theorem fC {a b c d e : Nat} : 8 * (a + b) ≤ c → d ≤ 8 * a → e ≤ 8 * b → d + e ≤ c := ln 0x22222210a04881038800243a8803 [d, e, c, a, b]
theorem fB {a : Nat} {b : Prop} {c : Int} {d e : Nat} : a = 2 ∨ a = 3 → (a = 2 → b) → c ≠ 0 → d < a → e = a + 1 → min d e + 1 ≤ 16777216 := fun h1 _ _ h4 h5 => Or.elim h1 (fun zt2 => ln 0x2222210000007fb1b0a02021212b123 [min d e, a, d] zt2 h4 (Nat.min_eq_left (ln 0x21221001b2a122012 [d, e, a] h4 h5))) (fun zt2 => ln 0x2222210000007fb1b0a02021213b123 [min d e, a, d] zt2 h4 (Nat.min_eq_left (ln 0x21221001b2a122012 [d, e, a] h4 h5)))
theorem fA {a : Nat} {b : Prop} {c : Int} {d e : Nat} : a = 2 ∨ a = 3 → (a = 2 → b) → c ≠ 0 → d < a → e = a + 1 → min d e + 1 + (e - (d + 1)) ≤ 16777216 := fun h1 _ _ h4 h5 => Or.elim h1 (fun zt2 => ln 0x22222210000007fb11b0aa031b4a1a24021b2a322b224 [min d e, e - (d + 1), a, e, d] zt2 h5 (Nat.min_eq_left (ln 0x21221001b2a122012 [d, e, a] h4 h5)) (lsc e (d + 1) (ln 0x212211b0a01b2a122012 [d, e, a] h4 h5))) (fun zt2 => ln 0x22222210000007fb11b0aa031b4a1a24021b2a323b224 [min d e, e - (d + 1), a, e, d] zt2 h5 (Nat.min_eq_left (ln 0x21221001b2a122012 [d, e, a] h4 h5)) (lsc e (d + 1) (ln 0x212211b0a01b2a122012 [d, e, a] h4 h5)))
end Mine
end
noncomputable section
set_option maxRecDepth 10000
namespace Mine
open PySem
inductive V where
 | none
 | bool (b : Bool)
 | int (i : Int)
 | ref (a : Addr)
 | oth (v : Value)
noncomputable def Af : Value → V
 | .none => .none
 | .bool b => .bool b
 | .int i _ => .int i
 | .ref a => .ref a
 | v => .oth v
inductive Ed where
 | list (vs : List V)
 | tup (vs : List V)
 | inst (dx : Addr)
 | dict (vs : List V)
noncomputable abbrev Aa := Addr → Option Ed
noncomputable abbrev Loc := List (Option V)
noncomputable abbrev Ext (σ σ' : Aa) : Prop := ∀ a o, σ a = some o → σ' a = some o
noncomputable abbrev Ag (x : Addr) (σ σ' : Aa) : Prop := ∀ a o, a ≠ x → σ a = some o → σ' a = some o
inductive Bif where
 | len | abs | int | min | max | sum
 deriving DecidableEq
mutual
inductive Ex where
 | loc (i : Nat) (p : Pos)
 | glo (x : Str) (v : V) (p : Pos)
 | num (n : Int) (p : Pos)
 | boo (b : Bool) (p : Pos)
 | bin (o : Operator) (l r : Ex) (p : Pos)
 | neg (e : Ex) (p : Pos)
 | not (e : Ex) (p : Pos)
 | conj (l r : Ex) (p : Pos)
 | cmp (o : CmpOp) (l r : Ex) (p : Pos)
 | ite (c : Tst) (a b : Ex) (p : Pos)
 | attr (e : Ex) (k : Nat) (p : Pos)
 | idx (e i : Ex) (p : Pos)
 | slAll (e : Ex) (q p : Pos)
 | slTo (e h : Ex) (q p : Pos)
 | slFrom (e l : Ex) (q p : Pos)
 | slBoth (e l h : Ex) (q p : Pos)
 | tup (es : Exs) (p : Pos)
 | lst (es : Exs) (p : Pos)
 | call (f : Ex) (as : Exs) (p : Pos)
 | meth (e : Ex) (x : Str) (f : Addr) (as : Exs) (q p : Pos)
 | app (e a : Ex) (q p : Pos)
 | bitl (e : Ex) (q p : Pos)
 | bif (b : Bif) (as : Exs) (q p : Pos)
 | comp (el : Ex) (tg : Tg) (s : Src) (sc : Scope) (cn : List Str) (cap : List (Option Nat)) (p : Pos)
 | compIf (el : Ex) (tg : Tg) (s : Src) (c : Tst) (sc : Scope) (cn : List Str) (cap : List (Option Nat)) (p : Pos)
inductive Exs where
 | nil
 | cons (e : Ex) (r : Exs)
inductive Tst where
 | cmp (o : CmpOp) (l r : Ex) (p : Pos)
 | conj (l r : Tst) (p : Pos)
 | disj (l r : Tst) (p : Pos)
 | not (c : Tst) (p : Pos)
 | val (e : Ex)
inductive Src where
 | range1 (e : Ex) (q p : Pos)
 | range2 (a b : Ex) (q p : Pos)
 | range3 (a b c : Ex) (q p : Pos)
 | lst (e : Ex)
 | enum (e : Ex) (q p : Pos)
 | zip (a b : Ex) (q p : Pos)
inductive Tg where
 | one (i : Nat) (p : Pos)
 | two (i : Nat) (pi : Pos) (j : Nat) (pj : Pos) (p : Pos)
end
inductive At where
 | loc (i : Nat) (p : Pos)
 | attr (e : Ex) (k : Nat) (p : Pos)
 | idx (e i : Ex) (p : Pos)
 | two (i : Nat) (pi : Pos) (j : Nat) (pj : Pos) (p : Pos)
mutual
inductive St where
 | asg (t : At) (e : Ex) (p : Pos)
 | asgs (ts : List At) (es : Exs) (tp ep p : Pos)
 | unp (ts : List At) (e : Ex) (tp p : Pos)
 | aug (i : Nat) (q : Pos) (o : Operator) (e : Ex) (p : Pos)
 | expr (e : Ex) (p : Pos)
 | cond (c : Tst) (a b : Sts) (p : Pos)
 | whil (c : Tst) (b : Sts) (p : Pos)
 | forr (t : Tg) (s : Src) (b : Sts) (p : Pos)
 | ret (e : Ex) (p : Pos)
 | ret0 (p : Pos)
 | dead (s : PySem.Stmt)
inductive Sts where
 | nil
 | cons (s : St) (r : Sts)
end
noncomputable def Ad : List Str := ["rows", "top", "bottom", "w", "mul", "divrem", "sizes", "parts"]
noncomputable def Bif.name : Bif → Str
 | .len => "len" | .abs => "abs" | .int => "int" | .min => "min" | .max => "max" | .sum => "sum"
noncomputable def Ac (nm : List Str) (i : Nat) : Str := nm.getD i (Str.ofString "")
noncomputable def I3 (nm : List Str) : Tg → Expr
 | .one i p => .Name (Ac nm i) p
 | .two i pi j pj p => .Tuple [.Name (Ac nm i) pi, .Name (Ac nm j) pj] 0 p
mutual
noncomputable def trE (nm : List Str) : Ex → Expr
 | .loc i p => .Name (Ac nm i) p
 | .glo x _ p => .Name x p
 | .num n p => .Constant (.int n) 0 p
 | .boo b p => .Constant (.bool b) 0 p
 | .bin o l r p => .BinOp (trE nm l) o (trE nm r) p
 | .neg e p => .UnaryOp .USub (trE nm e) p
 | .not e p => .UnaryOp .Not (trE nm e) p
 | .conj l r p => .BoolOp .And [trE nm l, trE nm r] p
 | .cmp o l r p => .Compare (trE nm l) [o] [trE nm r] p
 | .ite c a b p => .IfExp (trT nm c) (trE nm a) (trE nm b) p
 | .attr e k p => .Attribute (trE nm e) (Ac Ad k) p
 | .idx e i p => .Subscript (trE nm e) (trE nm i) p
 | .slAll e q p => .Subscript (trE nm e) (.Slice none none none q) p
 | .slTo e h q p => .Subscript (trE nm e) (.Slice none (some (trE nm h)) none q) p
 | .slFrom e l q p => .Subscript (trE nm e) (.Slice (some (trE nm l)) none none q) p
 | .slBoth e l h q p => .Subscript (trE nm e) (.Slice (some (trE nm l)) (some (trE nm h)) none q) p
 | .tup es p => .Tuple (Bt nm es) 0 p
 | .lst es p => .List (Bt nm es) p
 | .call f as p => .Call (trE nm f) (Bt nm as) [] p
 | .meth e x _ as q p => .Call (.Attribute (trE nm e) x q) (Bt nm as) [] p
 | .app e a q p => .Call (.Attribute (trE nm e) "append" q) [trE nm a] [] p
 | .bitl e q p => .Call (.Attribute (trE nm e) "bit_length" q) [] [] p
 | .bif b as q p => .Call (.Name b.name q) (Bt nm as) [] p
 | .comp el tg s sc cn _ p => .ListComp (trE cn el) [⟨I3 cn tg, Ee nm s, [], 0⟩] sc p
 | .compIf el tg s c sc cn _ p => .ListComp (trE cn el) [⟨I3 cn tg, Ee nm s, [trT cn c], 0⟩] sc p
noncomputable def Bt (nm : List Str) : Exs → List Expr
 | .nil => []
 | .cons e r => trE nm e :: Bt nm r
noncomputable def trT (nm : List Str) : Tst → Expr
 | .cmp o l r p => .Compare (trE nm l) [o] [trE nm r] p
 | .conj l r p => .BoolOp .And [trT nm l, trT nm r] p
 | .disj l r p => .BoolOp .Or [trT nm l, trT nm r] p
 | .not c p => .UnaryOp .Not (trT nm c) p
 | .val e => trE nm e
noncomputable def Ee (nm : List Str) : Src → Expr
 | .range1 e q p => .Call (.Name "range" q) [trE nm e] [] p
 | .range2 a b q p => .Call (.Name "range" q) [trE nm a, trE nm b] [] p
 | .range3 a b c q p => .Call (.Name "range" q) [trE nm a, trE nm b, trE nm c] [] p
 | .lst e => trE nm e
 | .enum e q p => .Call (.Name "enumerate" q) [trE nm e] [] p
 | .zip a b q p => .Call (.Name "zip" q) [trE nm a, trE nm b] [] p
end
noncomputable def trA (nm : List Str) : At → Expr
 | .loc i p => .Name (Ac nm i) p
 | .attr e k p => .Attribute (trE nm e) (Ac Ad k) p
 | .idx e i p => .Subscript (trE nm e) (trE nm i) p
 | .two i pi j pj p => .Tuple [.Name (Ac nm i) pi, .Name (Ac nm j) pj] 0 p
mutual
noncomputable def trS (nm : List Str) : St → Stmt
 | .asg t e p => .Assign [trA nm t] (trE nm e) p
 | .asgs ts es tp ep p => .Assign [.Tuple (ts.map (trA nm)) 0 tp] (.Tuple (Bt nm es) 0 ep) p
 | .unp ts e tp p => .Assign [.Tuple (ts.map (trA nm)) 0 tp] (trE nm e) p
 | .aug i q o e p => .AugAssign (.Name (Ac nm i) q) o (trE nm e) p
 | .expr e p => .Expr (trE nm e) p
 | .cond c a b p => .If (trT nm c) (C8 nm a) (C8 nm b) p
 | .whil c b p => .While (trT nm c) (C8 nm b) [] p
 | .forr t s b p => .For (I3 nm t) (Ee nm s) (C8 nm b) [] p
 | .ret e p => .Return (some (trE nm e)) p
 | .ret0 p => .Return none p
 | .dead s => s
noncomputable def C8 (nm : List Str) : Sts → List Stmt
 | .nil => []
 | .cons s r => trS nm s :: C8 nm r
end
noncomputable abbrev LIM : Nat := 16777216
section
variable (B : Addr → Prop)
noncomputable def Co (o : Ed) (σ : Aa) (Q : V → Aa → Prop) : Prop :=
 ∀ r σ', B r → σ r = none → Ext σ σ' → σ' r = some o → Q (.ref r) σ'
noncomputable abbrev bitsI (a : Int) : Nat := Builtin.Int.intBits a
noncomputable def Hh (a b : Int) : Prop := bitsI a ≤ 64 ∨ bitsI b ≤ 64 ∨ bitsI a + bitsI b ≤ 2 ^ 26
noncomputable def eJ (o : Operator) (a b : Int) (σ : Aa) (Q : V → Aa → Prop) : Prop :=
 match o with
 | .Add => Q (.int (a + b)) σ
 | .Sub => Q (.int (a - b)) σ
 | .Mult => Hh a b ∧ Q (.int (a * b)) σ
 | .FloorDiv => (b ≠ 0 ∧ b.natAbs < 1073741824) ∧ Q (.int (a.fdiv b)) σ
 | .Mod => b ≠ 0 ∧ Q (.int (a.fmod b)) σ
 | .LShift => (0 ≤ b ∧ (bitsI a : Int) + b ≤ 2 ^ 26) ∧ Q (.int (a * 2 ^ b.toNat)) σ
 | .RShift => 0 ≤ b ∧ Q (.int (a.fdiv (2 ^ b.toNat))) σ
 | .BitAnd => Q (.int (Builtin.bitAnd a b)) σ
 | .BitOr => Q (.int (Builtin.bitOr a b)) σ
 | .Pow => (0 ≤ b ∧ (bitsI a : Int) * b ≤ 2 ^ 26) ∧ Q (.int (a ^ b.toNat)) σ
 | _ => False
noncomputable def Ua (o : Operator) (a b : V) (σ : Aa) (Q : V → Aa → Prop) : Prop :=
 match a, b with
 | .int a, .int b => eJ o a b σ Q
 | .ref x, .ref y => (match o with
  | .Add => ∃ xs ys, (σ x = some (.list xs) ∧ σ y = some (.list ys) ∧ xs.length + ys.length ≤ LIM) ∧ Co B (.list (xs ++ ys)) σ Q
  | _ => False)
 | .ref x, .int n => (match o with
  | .Mult => ∃ v, (σ x = some (.list [v]) ∧ 0 ≤ n ∧ n ≤ LIM) ∧ Co B (.list (List.replicate n.toNat v)) σ Q
  | _ => False)
 | _, _ => False
noncomputable def bJ (a : V) (Q : V → Prop) : Prop := match a with
 | .int a => Q (.int (-a))
 | _ => False
noncomputable def J2 (a : V) (Q : Bool → Prop) : Prop := match a with
 | .bool b => Q b
 | .int i => Q (i != 0)
 | _ => False
noncomputable def K5 (σ : Aa) : Nat → V → PyData → Prop
 | _, .bool b, .bool c => b = c
 | _, .int i, .int j => i = j
 | n + 1, .ref a, .list ds => ∃ vs, σ a = some (.list vs) ∧ vs.length = ds.length ∧ ∀ (i : Nat) v d, vs[i]? = some v → ds[i]? = some d → K5 σ n v d
 | n + 1, .ref a, .tuple ds => ∃ vs, σ a = some (.tup vs) ∧ vs.length = ds.length ∧ ∀ (i : Nat) v d, vs[i]? = some v → ds[i]? = some d → K5 σ n v d
 | _, _, _ => False
noncomputable def eF (o : CmpOp) (a b : Int) (Q : Bool → Prop) : Prop :=
 match o with
 | .Lt => Q (decide (a < b))
 | .LtE => Q (decide (a ≤ b))
 | .Gt => Q (decide (b < a))
 | .GtE => Q (decide (b ≤ a))
 | .Eq => Q (decide (a = b))
 | .NotEq => Q (decide (a ≠ b))
 | _ => False
noncomputable def Q2 (o : CmpOp) (a b : V) (σ : Aa) (Q : Bool → Prop) : Prop :=
 match a, b with
 | .int a, .int b => eF o a b Q
 | .bool a, .bool b => (match o with
  | .Eq => Q (decide (a = b))
  | .NotEq => Q (decide (a ≠ b))
  | _ => False)
 | .ref x, .ref y => (match o with
  | .NotEq => ∃ xs ys : List Int, (σ x = some (.list (xs.map .int)) ∧ σ y = some (.list (ys.map .int))) ∧ Q (decide (xs ≠ ys))
  | .Eq => ∃ t, (K5 σ 6 (.ref x) t ∧ K5 σ 6 (.ref y) t) ∧ Q true
  | _ => False)
 | _, _ => False
noncomputable def Ib (n : Int) (len j : Nat) : Prop := n = (j : Int) ∨ n = (j : Int) - (len : Int)
noncomputable def Wg (a b : V) (σ : Aa) (Q : V → Prop) : Prop :=
 match a, b with
 | .ref x, .int n => ∃ xs j v, ((σ x = some (.list xs) ∨ σ x = some (.tup xs)) ∧ Ib n xs.length j ∧ xs[j]? = some v) ∧ Q v
 | _, _ => False
noncomputable def Fk (lo : Option Int) (n : Nat) : Nat := match lo with
 | none => 0
 | some i => if i < 0 then n - (-i).toNat else min i.toNat n
noncomputable def Eh (hi : Option Int) (n : Nat) : Nat := match hi with
 | none => n
 | some i => if i < 0 then n - (-i).toNat else min i.toNat n
noncomputable def cut (xs : List V) (lo hi : Option Int) : List V := (xs.drop (Fk lo xs.length)).take (Eh hi xs.length - Fk lo xs.length)
noncomputable def slW (a : V) (lo hi : Option Int) (σ : Aa) (Q : V → Aa → Prop) : Prop :=
 match a with
 | .ref x => ∃ xs, σ x = some (.list xs) ∧ Co B (.list (cut xs lo hi)) σ Q
 | _ => False
noncomputable def Fo (a : V) (Q : Int → Prop) : Prop := match a with
 | .int i => Q i
 | _ => False
noncomputable def Ka (a : V) (Q : Addr → Prop) : Prop := match a with
 | .ref i => Q i
 | _ => False
noncomputable def Dq : V → Prop
 | .oth _ => False
 | _ => True
noncomputable def W9 (a : V) (k : Nat) (σ : Aa) (Q : V → Prop) : Prop :=
 match a with
 | .ref x => ∃ dx vs v, (σ x = some (.inst dx) ∧ σ dx = some (.dict vs) ∧ vs[k]? = some v ∧ Dq v) ∧ Q v
 | _ => False
noncomputable def Qo (a : V) (σ : Aa) : Prop :=
 match a with
 | .ref x => ∃ dx vs, σ x = some (.inst dx) ∧ σ dx = some (.dict vs)
 | _ => False
noncomputable def Sb (a : V) (σ : Aa) : Prop :=
 match a with
 | .ref x => ∃ xs, σ x = some (.list xs)
 | _ => False
noncomputable def cK (l v : V) (σ : Aa) (Q : V → Aa → Prop) : Prop :=
 match l with
 | .ref x => ∃ xs, (B x ∧ σ x = some (.list xs) ∧ xs.length < LIM) ∧ ∀ σ', Ag x σ σ' → σ' x = some (.list (xs ++ [v])) → Q .none σ'
 | _ => False
noncomputable def eM (b : Bif) (v : V) (σ : Aa) (Q : V → Prop) : Prop :=
 match v with
 | .ref a => (match b with
  | .len => ∃ xs, σ a = some (.list xs) ∧ Q (.int xs.length)
  | .sum => ∃ ns : List Int, σ a = some (.list (ns.map .int)) ∧ Q (.int ns.sum)
  | _ => False)
 | .int n => (match b with
  | .abs => Q (.int n.natAbs)
  | .int => Q (.int n)
  | _ => False)
 | _ => False
noncomputable def eK (b : Bif) (v u : V) (Q : V → Prop) : Prop :=
 match v, u with
 | .int a, .int c => (match b with
  | .min => Q (.int (min a c))
  | .max => Q (.int (max a c))
  | _ => False)
 | _, _ => False
noncomputable def Zr (b : Bif) (vs : List V) (σ : Aa) (Q : V → Prop) : Prop :=
 match vs with
 | [v] => eM b v σ Q
 | [v, u] => eK b v u Q
 | _ => False
noncomputable def capt (cap : List (Option Nat)) (ρ : Loc) : Loc := cap.map fun c => match c with
 | some j => ρ.getD j none
 | none => none
noncomputable def D4 (t : Tg) (it : List V) (ρ : Loc) : Loc :=
 match t, it with
 | .one i _, [v] => ρ.set i (some v)
 | .two i _ j _ _, [v, u] => (ρ.set i (some v)).set j (some u)
 | _, _ => ρ
noncomputable def J1 (a b : Int) : List (List V) := (List.range (b - a).toNat).map fun (i : Nat) => [.int (a + i)]
noncomputable def Fx (a b : Int) : List (List V) := (List.range (a - b).toNat).map fun (i : Nat) => [.int (a - i)]
noncomputable def Iz (xs : List V) : List (List V) := xs.mapIdx fun i x => [.int i, x]
noncomputable def K9 (xs ys : List V) : List (List V) := List.zipWith (fun x y => [x, y]) xs ys
noncomputable def small (n : Int) : Prop := -(2 ^ 30) ≤ n ∧ n ≤ 2 ^ 30
variable (C : V → List V → Aa → (V → Aa → Prop) → Prop)
mutual
noncomputable def wpE : Ex → Loc → Aa → (V → Aa → Prop) → Prop
 | .loc i _ => fun ρ σ Q => match ρ.getD i none with | some v => Q v σ | none => False
 | .glo _ v _ => fun _ σ Q => Q v σ
 | .num n _ => fun _ σ Q => Q (.int n) σ
 | .boo b _ => fun _ σ Q => Q (.bool b) σ
 | .bin o l r _ => fun ρ σ Q => wpE l ρ σ fun a σ => wpE r ρ σ fun b σ => Ua B o a b σ Q
 | .neg e _ => fun ρ σ Q => wpE e ρ σ fun a σ => bJ a fun v => Q v σ
 | .not e _ => fun ρ σ Q => wpE e ρ σ fun a σ => J2 a fun t => Q (.bool (!t)) σ
 | .conj l r _ => fun ρ σ Q => wpE l ρ σ fun a σ => J2 a fun t => (t = true → wpE r ρ σ Q) ∧ (t = false → Q a σ)
 | .cmp o l r _ => fun ρ σ Q => wpE l ρ σ fun a σ => wpE r ρ σ fun b σ => Q2 o a b σ fun t => Q (.bool t) σ
 | .ite c a b _ => fun ρ σ Q => wpT c ρ σ fun t σ => (t = true → wpE a ρ σ Q) ∧ (t = false → wpE b ρ σ Q)
 | .attr e k _ => fun ρ σ Q => wpE e ρ σ fun a σ => W9 a k σ fun v => Q v σ
 | .idx e i _ => fun ρ σ Q => wpE e ρ σ fun a σ => wpE i ρ σ fun b σ => Wg a b σ fun v => Q v σ
 | .slAll e _ _ => fun ρ σ Q => wpE e ρ σ fun a σ => slW B a none none σ Q
 | .slTo e h _ _ => fun ρ σ Q => wpE e ρ σ fun a σ => wpE h ρ σ fun b σ => Fo b fun j => slW B a none (some j) σ Q
 | .slFrom e l _ _ => fun ρ σ Q => wpE e ρ σ fun a σ => wpE l ρ σ fun b σ => Fo b fun i => slW B a (some i) none σ Q
 | .slBoth e l h _ _ => fun ρ σ Q => wpE e ρ σ fun a σ => wpE l ρ σ fun b σ => Fo b fun i => wpE h ρ σ fun c σ => Fo c fun j => slW B a (some i) (some j) σ Q
 | .tup es _ => fun ρ σ Q => Hb es ρ σ fun vs σ => Co B (.tup vs) σ Q
 | .lst es _ => fun ρ σ Q => Hb es ρ σ fun vs σ => Co B (.list vs) σ Q
 | .call f as _ => fun ρ σ Q => wpE f ρ σ fun g σ => Hb as ρ σ fun vs σ => C g vs σ Q
 | .meth e _ f as _ _ => fun ρ σ Q => wpE e ρ σ fun a σ => Qo a σ ∧ Hb as ρ σ fun vs σ => C (.ref f) (a :: vs) σ Q
 | .app e a _ _ => fun ρ σ Q => wpE e ρ σ fun l σ => Sb l σ ∧ wpE a ρ σ fun v σ => cK B l v σ Q
 | .bitl e _ _ => fun ρ σ Q => wpE e ρ σ fun a σ => Fo a fun n => Q (.int (bitsI n)) σ
 | .bif b as _ _ => fun ρ σ Q => Hb as ρ σ fun vs σ => Zr b vs σ fun v => Q v σ
 | .comp el tg s _ _ cap _ => fun ρ σ Q => L5 s ρ σ fun items g σ => items.length ≤ LIM ∧ ∃ I : List V → Aa → Prop, I [] σ ∧ (∀ acc σ, I acc σ → g σ) ∧
   (∀ acc σ it, I acc σ → items[acc.length]? = some it → wpE el (D4 tg it (capt cap ρ)) σ fun v σ' => I (acc ++ [v]) σ') ∧
   (∀ acc σ, I acc σ → acc.length = items.length → Co B (.list acc) σ Q)
 | .compIf el tg s c _ _ cap _ => fun ρ σ Q => L5 s ρ σ fun items g σ => items.length ≤ LIM ∧ ∃ I : Nat → List V → Aa → Prop, I 0 [] σ ∧ (∀ k acc σ, I k acc σ → g σ ∧ acc.length ≤ k) ∧
   (∀ k acc σ it, I k acc σ → items[k]? = some it → wpT c (D4 tg it (capt cap ρ)) σ fun t σ =>
    (t = true → wpE el (D4 tg it (capt cap ρ)) σ fun v σ' => I (k + 1) (acc ++ [v]) σ') ∧ (t = false → I (k + 1) acc σ)) ∧
   (∀ acc σ, I items.length acc σ → Co B (.list acc) σ Q)
noncomputable def Hb : Exs → Loc → Aa → (List V → Aa → Prop) → Prop
 | .nil => fun _ σ Q => Q [] σ
 | .cons e r => fun ρ σ Q => wpE e ρ σ fun v σ => Hb r ρ σ fun vs σ => Q (v :: vs) σ
noncomputable def wpT : Tst → Loc → Aa → (Bool → Aa → Prop) → Prop
 | .cmp o l r _ => fun ρ σ Q => wpE l ρ σ fun a σ => wpE r ρ σ fun b σ => Q2 o a b σ fun t => Q t σ
 | .conj l r _ => fun ρ σ Q => wpT l ρ σ fun t σ => (t = true → wpT r ρ σ Q) ∧ (t = false → Q false σ)
 | .disj l r _ => fun ρ σ Q => wpT l ρ σ fun t σ => (t = true → Q true σ) ∧ (t = false → wpT r ρ σ Q)
 | .not c _ => fun ρ σ Q => wpT c ρ σ fun t σ => Q (!t) σ
 | .val e => fun ρ σ Q => wpE e ρ σ fun a σ => J2 a fun t => Q t σ
noncomputable def L5 : Src → Loc → Aa → (List (List V) → (Aa → Prop) → Aa → Prop) → Prop
 | .range1 e _ _ => fun ρ σ Q => wpE e ρ σ fun a σ => Fo a fun n => small n ∧ Q (J1 0 n) (fun _ => True) σ
 | .range2 a b _ _ => fun ρ σ Q => wpE a ρ σ fun a σ => Fo a fun m => wpE b ρ σ fun b σ => Fo b fun n => (small m ∧ small n) ∧ Q (J1 m n) (fun _ => True) σ
 | .range3 a b c _ _ => fun ρ σ Q => wpE a ρ σ fun a σ => Fo a fun m => wpE b ρ σ fun b σ => Fo b fun n => wpE c ρ σ fun c σ => Fo c fun k =>
   (small m ∧ small n ∧ k = -1) ∧ Q (Fx m n) (fun _ => True) σ
 | .lst e => fun ρ σ Q => wpE e ρ σ fun a σ => Ka a fun x => ∃ xs, σ x = some (.list xs) ∧ Q (xs.map fun v => [v]) (fun σ => σ x = some (.list xs)) σ
 | .enum e _ _ => fun ρ σ Q => wpE e ρ σ fun a σ => Ka a fun x => ∃ xs, σ x = some (.list xs) ∧ Q (Iz xs) (fun σ => σ x = some (.list xs)) σ
 | .zip a b _ _ => fun ρ σ Q => wpE a ρ σ fun a σ => wpE b ρ σ fun b σ => Ka a fun x => Ka b fun y => ∃ xs ys, (σ x = some (.list xs) ∧ σ y = some (.list ys)) ∧
   Q (K9 xs ys) (fun σ => σ x = some (.list xs) ∧ σ y = some (.list ys)) σ
end
noncomputable def H7 (a b v : V) (σ : Aa) (Q : Aa → Prop) : Prop :=
 match a, b with
 | .ref x, .int n => ∃ xs j, (B x ∧ σ x = some (.list xs) ∧ n = (j : Nat) ∧ j < xs.length) ∧ ∀ σ', Ag x σ σ' → σ' x = some (.list (xs.set j v)) → Q σ'
 | _, _ => False
noncomputable def G3 (a v : V) (k : Nat) (σ : Aa) (Q : Aa → Prop) : Prop :=
 match a with
 | .ref x => ∃ dx vs, (B dx ∧ σ x = some (.inst dx) ∧ σ dx = some (.dict vs) ∧ k ≤ vs.length) ∧ ∀ σ', Ag dx σ σ' → σ' dx = some (.dict (if k < vs.length then vs.set k v else vs ++ [v])) → Q σ'
 | _ => False
noncomputable def wpA (t : At) (v : V) (ρ : Loc) (σ : Aa) (Q : Loc → Aa → Prop) : Prop :=
 match t with
 | .loc i _ => Q (ρ.set i (some v)) σ
 | .attr e k _ => wpE B C e ρ σ fun a σ => G3 B a v k σ fun σ => Q ρ σ
 | .idx e i _ => wpE B C e ρ σ fun a σ => wpE B C i ρ σ fun b σ => H7 B a b v σ fun σ => Q ρ σ
 | .two i _ j _ _ => Ka v fun x => ∃ u w, σ x = some (.tup [u, w]) ∧ Q ((ρ.set i (some u)).set j (some w)) σ
noncomputable def N7 : List At → List V → Loc → Aa → (Loc → Aa → Prop) → Prop
 | [], [] => fun ρ σ Q => Q ρ σ
 | t :: ts, v :: vs => fun ρ σ Q => wpA B C t v ρ σ fun ρ σ => N7 ts vs ρ σ Q
 | _, _ => fun _ _ _ => False
mutual
noncomputable def wpS : St → Loc → Aa → (Loc → Aa → Prop) → (V → Aa → Prop) → Prop
 | .asg t e _ => fun ρ σ N _ => wpE B C e ρ σ fun v σ => wpA B C t v ρ σ N
 | .asgs ts es _ _ _ => fun ρ σ N _ => Hb B C es ρ σ fun vs σ => N7 B C ts vs ρ σ N
 | .unp ts e _ _ => fun ρ σ N _ => wpE B C e ρ σ fun v σ => Ka v fun x => ∃ vs, (σ x = some (.tup vs) ∧ vs.length = ts.length) ∧ N7 B C ts vs ρ σ N
 | .aug i _ o e _ => fun ρ σ N _ => match ρ.getD i none with
   | some (.int a) => wpE B C e ρ σ fun b σ => Ua B o (.int a) b σ fun v σ => N (ρ.set i (some v)) σ
   | _ => False
 | .expr e _ => fun ρ σ N _ => wpE B C e ρ σ fun v σ => v = .none ∧ N ρ σ
 | .cond c a b _ => fun ρ σ N R => wpT B C c ρ σ fun t σ => (t = true → Di a ρ σ N R) ∧ (t = false → Di b ρ σ N R)
 | .whil c b _ => fun ρ σ N R => ∃ (I : Nat → Loc → Aa → Prop) (X : Loc → Aa → Prop), (∃ n, I n ρ σ) ∧
   (∀ n ρ σ, I n ρ σ → wpT B C c ρ σ fun t σ => (t = true → Di b ρ σ (fun ρ σ => ∃ m, m < n ∧ I m ρ σ) R) ∧ (t = false → X ρ σ)) ∧ (∀ ρ σ, X ρ σ → N ρ σ)
 | .forr t s b _ => fun ρ σ N R => L5 B C s ρ σ fun items g σ => ∃ I : Nat → Loc → Aa → Prop, I 0 ρ σ ∧ (∀ k ρ σ, I k ρ σ → g σ) ∧
   (∀ k ρ σ it, I k ρ σ → items[k]? = some it → Di b (D4 t it ρ) σ (fun ρ σ => I (k + 1) ρ σ) R) ∧ (∀ ρ σ, I items.length ρ σ → N ρ σ)
 | .ret e _ => fun ρ σ _ R => wpE B C e ρ σ R
 | .ret0 _ => fun _ σ _ R => R .none σ
 | .dead _ => fun _ _ _ _ => False
noncomputable def Di : Sts → Loc → Aa → (Loc → Aa → Prop) → (V → Aa → Prop) → Prop
 | .nil => fun ρ σ N _ => N ρ σ
 | .cons s r => fun ρ σ N R => wpS s ρ σ (fun ρ σ => Di r ρ σ N R) R
end
end
end Mine
end
noncomputable section
namespace Mine
open PySem
@[reducible] noncomputable def pz (l c e : Nat) : Pos := ⟨l, c, l, e⟩
@[reducible] noncomputable def lo (i l c e : Nat) : Ex := .loc i (pz l c e)
@[reducible] noncomputable def la (i l c e : Nat) : At := .loc i (pz l c e)
@[reducible] noncomputable def nu (k : Int) (l c e : Nat) : Ex := .num k (pz l c e)
@[reducible] noncomputable def on (x : Ex) : Exs := .cons x .nil
noncomputable def To : List Str := ["a", "end"]
noncomputable def Ue : Sts :=
 (.cons (.asg (la 1 9 4 7) (.bif .len (on (lo 0 9 14 15)) (pz 9 10 13) (pz 9 10 16)) (pz 9 4 16))
 (.cons (.whil (.conj (.cmp .Gt (lo 1 10 10 13) (nu 0 10 16 17) (pz 10 10 17)) (.cmp .Eq (.idx (lo 0 10 22 23) (.bin .Sub (lo 1 10 24 27) (nu 1 10 30 31) (pz 10 24 31)) (pz 10 22 32)) (nu 0 10 36 37) (pz 10 22 37)) (pz 10 10 37))
  (.cons (.aug 1 (pz 11 8 11) .Sub (nu 1 11 15 16) (pz 11 8 16))
 .nil) ⟨10, 4, 11, 16⟩)
 (.cons (.ret (.slTo (lo 0 12 11 12) (lo 1 12 14 17) (pz 12 13 17) (pz 12 11 18)) (pz 12 4 18))
 .nil)))
noncomputable def Tp : List Str := ["number", "w", "found", "mask"]
noncomputable def Uf : Sts :=
 (.cons (.cond (.cmp .Lt (lo 0 14 7 13) (nu 0 14 16 17) (pz 14 7 17))
  (.cons (.dead (.Raise (some (.Call (.Name "OutOfRange" (pz 15 14 24)) [.Constant (.str "below nought") 0 (pz 15 25 39)] [] (pz 15 14 40))) none (pz 15 8 40)))
 .nil)
  .nil ⟨14, 4, 15, 40⟩)
 (.cons (.asgs [(la 2 16 4 9), (la 3 16 11 15)] (.cons (.lst .nil (pz 16 19 21)) (.cons (.bin .Sub (.bin .LShift (nu 1 16 24 25) (lo 1 16 29 30) (pz 16 24 30)) (nu 1 16 34 35) (pz 16 23 35)) .nil)) (pz 16 4 15) (pz 16 18 36) (pz 16 4 36))
 (.cons (.whil (.cmp .Gt (lo 0 17 10 16) (nu 0 17 19 20) (pz 17 10 20))
  (.cons (.expr (.app (lo 2 18 8 13) (.bin .BitAnd (lo 0 18 21 27) (lo 3 18 30 34) (pz 18 21 34)) (pz 18 8 20) (pz 18 8 35)) (pz 18 8 35))
 (.cons (.aug 0 (pz 19 8 14) .RShift (lo 1 19 19 20) (pz 19 8 20))
 .nil)) ⟨17, 4, 19, 20⟩)
 (.cons (.ret (lo 2 20 11 16) (pz 20 4 16))
 .nil))))
noncomputable def Qj : List Str := ["a", "b", "at"]
noncomputable def Q9 : Sts :=
 (.cons (.cond (.cmp .NotEq (.bif .len (on (lo 0 22 11 12)) (pz 22 7 10) (pz 22 7 13)) (.bif .len (on (lo 1 22 21 22)) (pz 22 17 20) (pz 22 17 23)) (pz 22 7 23))
  (.cons (.ret (.ite (.cmp .Lt (.bif .len (on (lo 0 23 25 26)) (pz 23 21 24) (pz 23 21 27)) (.bif .len (on (lo 1 23 34 35)) (pz 23 30 33) (pz 23 30 36)) (pz 23 21 36)) (.neg (nu 1 23 16 17) (pz 23 15 17)) (nu 1 23 42 43) (pz 23 15 43)) (pz 23 8 43))
 .nil)
  .nil ⟨22, 4, 23, 43⟩)
 (.cons (.forr (.one 2 (pz 24 8 10)) (.range3 (.bin .Sub (.bif .len (on (lo 0 24 24 25)) (pz 24 20 23) (pz 24 20 26)) (nu 1 24 29 30) (pz 24 20 30)) (.neg (nu 1 24 33 34) (pz 24 32 34)) (.neg (nu 1 24 37 38) (pz 24 36 38)) (pz 24 14 19) (pz 24 14 39))
  (.cons (.cond (.cmp .NotEq (.idx (lo 0 25 11 12) (lo 2 25 13 15) (pz 25 11 16)) (.idx (lo 1 25 20 21) (lo 2 25 22 24) (pz 25 20 25)) (pz 25 11 25))
  (.cons (.ret (.ite (.cmp .Lt (.idx (lo 0 26 25 26) (lo 2 26 27 29) (pz 26 25 30)) (.idx (lo 1 26 33 34) (lo 2 26 35 37) (pz 26 33 38)) (pz 26 25 38)) (.neg (nu 1 26 20 21) (pz 26 19 21)) (nu 1 26 44 45) (pz 26 19 45)) (pz 26 12 45))
 .nil)
  .nil ⟨25, 8, 26, 45⟩)
 .nil) ⟨24, 4, 26, 45⟩)
 (.cons (.ret (nu 0 27 11 12) (pz 27 4 12))
 .nil)))
noncomputable def bI : List Str := ["a", "b", "w", "found", "carry", "mask", "at"]
noncomputable def cG : Sts :=
 (.cons (.cond (.cmp .Lt (.bif .len (on (lo 0 29 11 12)) (pz 29 7 10) (pz 29 7 13)) (.bif .len (on (lo 1 29 20 21)) (pz 29 16 19) (pz 29 16 22)) (pz 29 7 22))
  (.cons (.asgs [(la 0 30 8 9), (la 1 30 11 12)] (.cons (lo 1 30 16 17) (on (lo 0 30 19 20))) (pz 30 8 12) (pz 30 15 21) (pz 30 8 21))
 .nil)
  .nil ⟨29, 4, 30, 21⟩)
 (.cons (.asgs [(la 3 31 4 9), (la 4 31 11 16), (la 5 31 18 22)] (.cons (.lst .nil (pz 31 26 28)) (.cons (nu 0 31 30 31) (.cons (.bin .Sub (.bin .LShift (nu 1 31 34 35) (lo 2 31 39 40) (pz 31 34 40)) (nu 1 31 44 45) (pz 31 33 45)) .nil))) (pz 31 4 22) (pz 31 25 46) (pz 31 4 46))
 (.cons (.forr (.one 6 (pz 32 8 10)) (.range1 (.bif .len (on (lo 1 32 24 25)) (pz 32 20 23) (pz 32 20 26)) (pz 32 14 19) (pz 32 14 27))
  (.cons (.aug 4 (pz 33 8 13) .Add (.bin .Add (.idx (lo 0 33 17 18) (lo 6 33 19 21) (pz 33 17 22)) (.idx (lo 1 33 25 26) (lo 6 33 27 29) (pz 33 25 30)) (pz 33 17 30)) (pz 33 8 30))
 (.cons (.expr (.app (lo 3 34 8 13) (.bin .BitAnd (lo 4 34 21 26) (lo 5 34 29 33) (pz 34 21 33)) (pz 34 8 20) (pz 34 8 34)) (pz 34 8 34))
 (.cons (.aug 4 (pz 35 8 13) .RShift (lo 2 35 18 19) (pz 35 8 19))
 .nil))) ⟨32, 4, 35, 19⟩)
 (.cons (.forr (.one 6 (pz 36 8 10)) (.range2 (.bif .len (on (lo 1 36 24 25)) (pz 36 20 23) (pz 36 20 26)) (.bif .len (on (lo 0 36 32 33)) (pz 36 28 31) (pz 36 28 34)) (pz 36 14 19) (pz 36 14 35))
  (.cons (.aug 4 (pz 37 8 13) .Add (.idx (lo 0 37 17 18) (lo 6 37 19 21) (pz 37 17 22)) (pz 37 8 22))
 (.cons (.expr (.app (lo 3 38 8 13) (.bin .BitAnd (lo 4 38 21 26) (lo 5 38 29 33) (pz 38 21 33)) (pz 38 8 20) (pz 38 8 34)) (pz 38 8 34))
 (.cons (.aug 4 (pz 39 8 13) .RShift (lo 2 39 18 19) (pz 39 8 19))
 .nil))) ⟨36, 4, 39, 19⟩)
 (.cons (.cond (.cmp .Gt (lo 4 40 7 12) (nu 0 40 15 16) (pz 40 7 16))
  (.cons (.expr (.app (lo 3 41 8 13) (lo 4 41 21 26) (pz 41 8 20) (pz 41 8 27)) (pz 41 8 27))
 .nil)
  .nil ⟨40, 4, 41, 27⟩)
 (.cons (.ret (lo 3 42 11 16) (pz 42 4 16))
 .nil))))))
noncomputable def bG : List Str := ["a", "b", "w", "found", "borrow", "base", "at", "limb"]
noncomputable def cD : Sts :=
 (.cons (.cond (.cmp .Lt (.call (.glo "compare" (.ref 72) (pz 44 7 14)) (.cons (lo 0 44 15 16) (on (lo 1 44 18 19))) (pz 44 7 20)) (nu 0 44 23 24) (pz 44 7 24))
  (.cons (.dead (.Raise (some (.Call (.Name "OutOfRange" (pz 45 14 24)) [.Constant (.str "below nought") 0 (pz 45 25 39)] [] (pz 45 14 40))) none (pz 45 8 40)))
 .nil)
  .nil ⟨44, 4, 45, 40⟩)
 (.cons (.asgs [(la 3 46 4 9), (la 4 46 11 17), (la 5 46 19 23)] (.cons (.lst .nil (pz 46 27 29)) (.cons (nu 0 46 31 32) (.cons (.bin .LShift (nu 1 46 34 35) (lo 2 46 39 40) (pz 46 34 40)) .nil))) (pz 46 4 23) (pz 46 26 41) (pz 46 4 41))
 (.cons (.forr (.one 6 (pz 47 8 10)) (.range1 (.bif .len (on (lo 0 47 24 25)) (pz 47 20 23) (pz 47 20 26)) (pz 47 14 19) (pz 47 14 27))
  (.cons (.asg (la 7 48 8 12) (.bin .Sub (.bin .Sub (.idx (lo 0 48 15 16) (lo 6 48 17 19) (pz 48 15 20)) (lo 4 48 23 29) (pz 48 15 29)) (.ite (.cmp .Lt (lo 6 48 42 44) (.bif .len (on (lo 1 48 51 52)) (pz 48 47 50) (pz 48 47 53)) (pz 48 42 53)) (.idx (lo 1 48 33 34) (lo 6 48 35 37) (pz 48 33 38)) (nu 0 48 59 60) (pz 48 33 60)) (pz 48 15 61)) (pz 48 8 61))
 (.cons (.asg (la 4 49 8 14) (.ite (.cmp .Lt (lo 7 49 22 26) (nu 0 49 29 30) (pz 49 22 30)) (nu 1 49 17 18) (nu 0 49 36 37) (pz 49 17 37)) (pz 49 8 37))
 (.cons (.expr (.app (lo 3 50 8 13) (.ite (.cmp .Lt (lo 7 50 36 40) (nu 0 50 43 44) (pz 50 36 44)) (.bin .Add (lo 7 50 21 25) (lo 5 50 28 32) (pz 50 21 32)) (lo 7 50 50 54) (pz 50 21 54)) (pz 50 8 20) (pz 50 8 55)) (pz 50 8 55))
 .nil))) ⟨47, 4, 50, 55⟩)
 (.cons (.ret (.call (.glo "normal" (.ref 58) (pz 51 11 17)) (on (lo 3 51 18 23)) (pz 51 11 24)) (pz 51 4 24))
 .nil))))
noncomputable def Oo : List Str := ["a", "limb", "w", "found", "mask", "one"]
noncomputable def O8 : Sts :=
 (.cons (.asgs [(la 3 53 4 9), (la 4 53 11 15)] (.cons (.lst .nil (pz 53 19 21)) (.cons (.bin .Sub (.bin .LShift (nu 1 53 24 25) (lo 2 53 29 30) (pz 53 24 30)) (nu 1 53 34 35) (pz 53 23 35)) .nil)) (pz 53 4 15) (pz 53 18 36) (pz 53 4 36))
 (.cons (.forr (.one 5 (pz 54 8 11)) (.lst (lo 0 54 15 16))
  (.cons (.aug 1 (pz 55 8 12) .Add (lo 5 55 16 19) (pz 55 8 19))
 (.cons (.expr (.app (lo 3 56 8 13) (.bin .BitAnd (lo 1 56 21 25) (lo 4 56 28 32) (pz 56 21 32)) (pz 56 8 20) (pz 56 8 33)) (pz 56 8 33))
 (.cons (.aug 1 (pz 57 8 12) .RShift (lo 2 57 17 18) (pz 57 8 18))
 .nil))) ⟨54, 4, 57, 18⟩)
 (.cons (.cond (.cmp .Gt (lo 1 58 7 11) (nu 0 58 14 15) (pz 58 7 15))
  (.cons (.expr (.app (lo 3 59 8 13) (lo 1 59 21 25) (pz 59 8 20) (pz 59 8 26)) (pz 59 8 26))
 .nil)
  .nil ⟨58, 4, 59, 26⟩)
 (.cons (.ret (lo 3 60 11 16) (pz 60 4 16))
 .nil))))
noncomputable def Ki : List Str := ["a", "limb", "w", "found", "rest", "at"]
noncomputable def Ky : Sts :=
 (.cons (.cond (.cmp .Eq (lo 1 62 7 11) (nu 0 62 15 16) (pz 62 7 16))
  (.cons (.dead (.Raise (some (.Call (.Name "DivisionByZero" (pz 63 14 28)) [.Constant (.str "division by nought") 0 (pz 63 29 49)] [] (pz 63 14 50))) none (pz 63 8 50)))
 .nil)
  .nil ⟨62, 4, 63, 50⟩)
 (.cons (.asgs [(la 3 64 4 9), (la 4 64 11 15)] (.cons (.bin .Mult (.lst (on (nu 0 64 20 21)) (pz 64 19 22)) (.bif .len (on (lo 0 64 29 30)) (pz 64 25 28) (pz 64 25 31)) (pz 64 19 31)) (on (nu 0 64 33 34))) (pz 64 4 15) (pz 64 18 35) (pz 64 4 35))
 (.cons (.forr (.one 5 (pz 65 8 10)) (.range3 (.bin .Sub (.bif .len (on (lo 0 65 24 25)) (pz 65 20 23) (pz 65 20 26)) (nu 1 65 29 30) (pz 65 20 30)) (.neg (nu 1 65 33 34) (pz 65 32 34)) (.neg (nu 1 65 37 38) (pz 65 36 38)) (pz 65 14 19) (pz 65 14 39))
  (.cons (.asg (la 4 66 8 12) (.bin .BitOr (.bin .LShift (lo 4 66 15 19) (lo 2 66 23 24) (pz 66 15 24)) (.idx (lo 0 66 27 28) (lo 5 66 29 31) (pz 66 27 32)) (pz 66 15 32)) (pz 66 8 32))
 (.cons (.asg (.idx (lo 3 67 8 13) (lo 5 67 14 16) (pz 67 8 17)) (.bin .FloorDiv (lo 4 67 20 24) (lo 1 67 28 32) (pz 67 20 32)) (pz 67 8 32))
 (.cons (.aug 4 (pz 68 8 12) .Mod (lo 1 68 16 20) (pz 68 8 20))
 .nil))) ⟨65, 4, 68, 20⟩)
 (.cons (.ret (.tup (.cons (.call (.glo "normal" (.ref 58) (pz 69 12 18)) (on (lo 3 69 19 24)) (pz 69 12 25)) (on (lo 4 69 27 31))) (pz 69 11 32)) (pz 69 4 32))
 .nil))))
noncomputable def Lh : List Str := ["a", "n", "w", "spots", "few", "found", "carry", "mask", "one"]
noncomputable def Ls : Sts :=
 (.cons (.cond (.cmp .Eq (.bif .len (on (lo 0 71 11 12)) (pz 71 7 10) (pz 71 7 13)) (nu 0 71 17 18) (pz 71 7 18))
  (.cons (.ret (.lst .nil (pz 72 15 17)) (pz 72 8 17))
 .nil)
  .nil ⟨71, 4, 72, 17⟩)
 (.cons (.asgs [(la 3 73 4 9), (la 4 73 11 14)] (.cons (.bin .FloorDiv (lo 1 73 18 19) (lo 2 73 23 24) (pz 73 18 24)) (.cons (.bin .Mod (lo 1 73 26 27) (lo 2 73 30 31) (pz 73 26 31)) .nil)) (pz 73 4 14) (pz 73 17 32) (pz 73 4 32))
 (.cons (.asgs [(la 5 74 4 9), (la 6 74 11 16), (la 7 74 18 22)] (.cons (.bin .Mult (.lst (on (nu 0 74 27 28)) (pz 74 26 29)) (lo 3 74 32 37) (pz 74 26 37)) (.cons (nu 0 74 39 40) (.cons (.bin .Sub (.bin .LShift (nu 1 74 43 44) (lo 2 74 48 49) (pz 74 43 49)) (nu 1 74 53 54) (pz 74 42 54)) .nil))) (pz 74 4 22) (pz 74 25 55) (pz 74 4 55))
 (.cons (.forr (.one 8 (pz 75 8 11)) (.lst (lo 0 75 15 16))
  (.cons (.aug 6 (pz 76 8 13) .BitOr (.bin .LShift (lo 8 76 17 20) (lo 4 76 24 27) (pz 76 17 27)) (pz 76 8 27))
 (.cons (.expr (.app (lo 5 77 8 13) (.bin .BitAnd (lo 6 77 21 26) (lo 7 77 29 33) (pz 77 21 33)) (pz 77 8 20) (pz 77 8 34)) (pz 77 8 34))
 (.cons (.aug 6 (pz 78 8 13) .RShift (lo 2 78 18 19) (pz 78 8 19))
 .nil))) ⟨75, 4, 78, 19⟩)
 (.cons (.cond (.cmp .Gt (lo 6 79 7 12) (nu 0 79 15 16) (pz 79 7 16))
  (.cons (.expr (.app (lo 5 80 8 13) (lo 6 80 21 26) (pz 80 8 20) (pz 80 8 27)) (pz 80 8 27))
 .nil)
  .nil ⟨79, 4, 80, 27⟩)
 (.cons (.ret (lo 5 81 11 16) (pz 81 4 16))
 .nil))))))
noncomputable def Kf : List Str := ["a", "n", "w", "spots", "few", "found", "mask", "at", "above"]
noncomputable def Kv : Sts :=
 (.cons (.asgs [(la 3 83 4 9), (la 4 83 11 14)] (.cons (.bin .FloorDiv (lo 1 83 18 19) (lo 2 83 23 24) (pz 83 18 24)) (.cons (.bin .Mod (lo 1 83 26 27) (lo 2 83 30 31) (pz 83 26 31)) .nil)) (pz 83 4 14) (pz 83 17 32) (pz 83 4 32))
 (.cons (.asgs [(la 5 84 4 9), (la 6 84 11 15)] (.cons (.lst .nil (pz 84 19 21)) (.cons (.bin .Sub (.bin .LShift (nu 1 84 24 25) (lo 2 84 29 30) (pz 84 24 30)) (nu 1 84 34 35) (pz 84 23 35)) .nil)) (pz 84 4 15) (pz 84 18 36) (pz 84 4 36))
 (.cons (.forr (.one 7 (pz 85 8 10)) (.range2 (lo 3 85 20 25) (.bif .len (on (lo 0 85 31 32)) (pz 85 27 30) (pz 85 27 33)) (pz 85 14 19) (pz 85 14 34))
  (.cons (.asg (la 8 86 8 13) (.ite (.cmp .Lt (.bin .Add (lo 7 86 29 31) (nu 1 86 34 35) (pz 86 29 35)) (.bif .len (on (lo 0 86 42 43)) (pz 86 38 41) (pz 86 38 44)) (pz 86 29 44)) (.idx (lo 0 86 16 17) (.bin .Add (lo 7 86 18 20) (nu 1 86 23 24) (pz 86 18 24)) (pz 86 16 25)) (nu 0 86 50 51) (pz 86 16 51)) (pz 86 8 51))
 (.cons (.expr (.app (lo 5 87 8 13) (.bin .BitAnd (.bin .BitOr (.bin .RShift (.idx (lo 0 87 22 23) (lo 7 87 24 26) (pz 87 22 27)) (lo 4 87 31 34) (pz 87 22 34)) (.bin .LShift (lo 8 87 37 42) (.bin .Sub (lo 2 87 46 47) (lo 4 87 50 53) (pz 87 46 53)) (pz 87 37 53)) (pz 87 22 53)) (lo 6 87 57 61) (pz 87 21 61)) (pz 87 8 20) (pz 87 8 62)) (pz 87 8 62))
 .nil)) ⟨85, 4, 87, 62⟩)
 (.cons (.ret (.call (.glo "normal" (.ref 58) (pz 88 11 17)) (on (lo 5 88 18 23)) (pz 88 11 24)) (pz 88 4 24))
 .nil))))
noncomputable def Yx : List Str := ["a", "w"]
noncomputable def Zv : Sts :=
 (.cons (.ret (.ite (.cmp .Gt (.bif .len (on (lo 0 90 56 57)) (pz 90 52 55) (pz 90 52 58)) (nu 0 90 61 62) (pz 90 52 62)) (.bin .Add (.bin .Mult (.bin .Sub (.bif .len (on (lo 0 90 16 17)) (pz 90 12 15) (pz 90 12 18)) (nu 1 90 21 22) (pz 90 12 22)) (lo 1 90 26 27) (pz 90 11 27)) (.bitl (.idx (lo 0 90 30 31) (.neg (nu 1 90 33 34) (pz 90 32 34)) (pz 90 30 35)) (pz 90 30 46) (pz 90 30 48)) (pz 90 11 48)) (nu 0 90 68 69) (pz 90 11 69)) (pz 90 4 69))
 .nil)
noncomputable def Tm : List Str := ["is_below", "nat"]
noncomputable def Uc : Sts :=
 (.cons (.ret (.tup (.cons (.conj (lo 0 98 12 20) (.cmp .Gt (.bif .len (on (lo 1 98 29 32)) (pz 98 25 28) (pz 98 25 33)) (nu 0 98 36 37) (pz 98 25 37)) (pz 98 12 37)) (on (lo 1 98 39 42))) (pz 98 11 43)) (pz 98 4 43))
 .nil)
noncomputable def Yv : List Str := ["number", "w"]
noncomputable def Zt : Sts :=
 (.cons (.ret (.tup (.cons (.cmp .Lt (lo 0 100 12 18) (nu 0 100 21 22) (pz 100 12 22)) (.cons (.call (.glo "nat_of" (.ref 65) (pz 100 24 30)) (.cons (.bif .abs (on (lo 0 100 35 41)) (pz 100 31 34) (pz 100 31 42)) (on (lo 1 100 44 45))) (pz 100 24 46)) .nil)) (pz 100 11 47)) (pz 100 4 47))
 .nil)
noncomputable def V7 : List Str := ["x"]
noncomputable def W4 : Sts :=
 (.cons (.ret (.call (.glo "signed" (.ref 135) (pz 102 11 17)) (.cons (.not (.idx (lo 0 102 22 23) (nu 0 102 24 25) (pz 102 22 26)) (pz 102 18 26)) (.cons (.idx (lo 0 102 28 29) (nu 1 102 30 31) (pz 102 28 32)) .nil)) (pz 102 11 33)) (pz 102 4 33))
 .nil)
noncomputable def Wa : List Str := ["x"]
noncomputable def W7 : Sts :=
 (.cons (.ret (.tup (.cons (.boo false (pz 104 12 17)) (.cons (.idx (lo 0 104 19 20) (nu 1 104 21 22) (pz 104 19 23)) .nil)) (pz 104 11 24)) (pz 104 4 24))
 .nil)
noncomputable def Tn : List Str := ["x"]
noncomputable def Ud : Sts :=
 (.cons (.cond (.cmp .Eq (.bif .len (.cons (.idx (lo 0 106 11 12) (nu 1 106 13 14) (pz 106 11 15)) .nil) (pz 106 7 10) (pz 106 7 16)) (nu 0 106 20 21) (pz 106 7 21))
  (.cons (.ret (nu 0 107 15 16) (pz 107 8 16))
 .nil)
  .nil ⟨106, 4, 107, 16⟩)
 (.cons (.ret (.ite (.val (.idx (lo 0 108 17 18) (nu 0 108 19 20) (pz 108 17 21))) (.neg (nu 1 108 12 13) (pz 108 11 13)) (nu 1 108 27 28) (pz 108 11 28)) (pz 108 4 28))
 .nil))
noncomputable def Mx : List Str := ["x", "y"]
noncomputable def Nl : Sts :=
 (.cons (.cond (.cmp .NotEq (.idx (lo 0 110 7 8) (nu 0 110 9 10) (pz 110 7 11)) (.idx (lo 1 110 15 16) (nu 0 110 17 18) (pz 110 15 19)) (pz 110 7 19))
  (.cons (.ret (.ite (.val (.idx (lo 0 111 21 22) (nu 0 111 23 24) (pz 111 21 25))) (.neg (nu 1 111 16 17) (pz 111 15 17)) (nu 1 111 31 32) (pz 111 15 32)) (pz 111 8 32))
 .nil)
  .nil ⟨110, 4, 111, 32⟩)
 (.cons (.ret (.ite (.val (.idx (lo 0 112 34 35) (nu 0 112 36 37) (pz 112 34 38))) (.call (.glo "compare" (.ref 72) (pz 112 11 18)) (.cons (.idx (lo 1 112 19 20) (nu 1 112 21 22) (pz 112 19 23)) (.cons (.idx (lo 0 112 25 26) (nu 1 112 27 28) (pz 112 25 29)) .nil)) (pz 112 11 30)) (.call (.glo "compare" (.ref 72) (pz 112 44 51)) (.cons (.idx (lo 0 112 52 53) (nu 1 112 54 55) (pz 112 52 56)) (.cons (.idx (lo 1 112 58 59) (nu 1 112 60 61) (pz 112 58 62)) .nil)) (pz 112 44 63)) (pz 112 11 63)) (pz 112 4 63))
 .nil))
noncomputable def V9 : List Str := ["x", "y", "w"]
noncomputable def W6 : Sts :=
 (.cons (.cond (.cmp .Eq (.idx (lo 0 114 7 8) (nu 0 114 9 10) (pz 114 7 11)) (.idx (lo 1 114 15 16) (nu 0 114 17 18) (pz 114 15 19)) (pz 114 7 19))
  (.cons (.ret (.call (.glo "signed" (.ref 135) (pz 115 15 21)) (.cons (.idx (lo 0 115 22 23) (nu 0 115 24 25) (pz 115 22 26)) (.cons (.call (.glo "add" (.ref 79) (pz 115 28 31)) (.cons (.idx (lo 0 115 32 33) (nu 1 115 34 35) (pz 115 32 36)) (.cons (.idx (lo 1 115 38 39) (nu 1 115 40 41) (pz 115 38 42)) (on (lo 2 115 44 45)))) (pz 115 28 46)) .nil)) (pz 115 15 47)) (pz 115 8 47))
 .nil)
  .nil ⟨114, 4, 115, 47⟩)
 (.cons (.cond (.cmp .Lt (.call (.glo "compare" (.ref 72) (pz 116 7 14)) (.cons (.idx (lo 0 116 15 16) (nu 1 116 17 18) (pz 116 15 19)) (.cons (.idx (lo 1 116 21 22) (nu 1 116 23 24) (pz 116 21 25)) .nil)) (pz 116 7 26)) (nu 0 116 29 30) (pz 116 7 30))
  (.cons (.ret (.call (.glo "signed" (.ref 135) (pz 117 15 21)) (.cons (.idx (lo 1 117 22 23) (nu 0 117 24 25) (pz 117 22 26)) (.cons (.call (.glo "sub" (.ref 86) (pz 117 28 31)) (.cons (.idx (lo 1 117 32 33) (nu 1 117 34 35) (pz 117 32 36)) (.cons (.idx (lo 0 117 38 39) (nu 1 117 40 41) (pz 117 38 42)) (on (lo 2 117 44 45)))) (pz 117 28 46)) .nil)) (pz 117 15 47)) (pz 117 8 47))
 .nil)
  .nil ⟨116, 4, 117, 47⟩)
 (.cons (.ret (.call (.glo "signed" (.ref 135) (pz 118 11 17)) (.cons (.idx (lo 0 118 18 19) (nu 0 118 20 21) (pz 118 18 22)) (.cons (.call (.glo "sub" (.ref 86) (pz 118 24 27)) (.cons (.idx (lo 0 118 28 29) (nu 1 118 30 31) (pz 118 28 32)) (.cons (.idx (lo 1 118 34 35) (nu 1 118 36 37) (pz 118 34 38)) (on (lo 2 118 40 41)))) (pz 118 24 42)) .nil)) (pz 118 11 43)) (pz 118 4 43))
 .nil)))
noncomputable def V6 : List Str := ["x", "y", "w"]
noncomputable def W3 : Sts :=
 (.cons (.ret (.call (.glo "s_add" (.ref 177) (pz 120 11 16)) (.cons (lo 0 120 17 18) (.cons (.call (.glo "s_neg" (.ref 149) (pz 120 20 25)) (on (lo 1 120 26 27)) (pz 120 20 28)) (on (lo 2 120 30 31)))) (pz 120 11 32)) (pz 120 4 32))
 .nil)
noncomputable def V8 : List Str := ["x", "y", "w", "mul"]
noncomputable def W5 : Sts :=
 (.cons (.ret (.call (.glo "signed" (.ref 135) (pz 122 11 17)) (.cons (.cmp .NotEq (.idx (lo 0 122 18 19) (nu 0 122 20 21) (pz 122 18 22)) (.idx (lo 1 122 26 27) (nu 0 122 28 29) (pz 122 26 30)) (pz 122 18 30)) (.cons (.call (lo 3 122 32 35) (.cons (.idx (lo 0 122 36 37) (nu 1 122 38 39) (pz 122 36 40)) (.cons (.idx (lo 1 122 42 43) (nu 1 122 44 45) (pz 122 42 46)) (on (lo 2 122 48 49)))) (pz 122 32 50)) .nil)) (pz 122 11 51)) (pz 122 4 51))
 .nil)
noncomputable def Yu : List Str := ["x", "y", "w", "divrem", "quotient", "rest"]
noncomputable def Zs : Sts :=
 (.cons (.cond (.cmp .Eq (.bif .len (.cons (.idx (lo 1 124 11 12) (nu 1 124 13 14) (pz 124 11 15)) .nil) (pz 124 7 10) (pz 124 7 16)) (nu 0 124 20 21) (pz 124 7 21))
  (.cons (.dead (.Raise (some (.Call (.Name "DivisionByZero" (pz 125 14 28)) [.Constant (.str "division by nought") 0 (pz 125 29 49)] [] (pz 125 14 50))) none (pz 125 8 50)))
 .nil)
  .nil ⟨124, 4, 125, 50⟩)
 (.cons (.unp [(la 4 126 4 12), (la 5 126 14 18)] (.call (lo 3 126 21 27) (.cons (.idx (lo 0 126 28 29) (nu 1 126 30 31) (pz 126 28 32)) (.cons (.idx (lo 1 126 34 35) (nu 1 126 36 37) (pz 126 34 38)) (on (lo 2 126 40 41)))) (pz 126 21 42)) (pz 126 4 18) (pz 126 4 42))
 (.cons (.ret (.tup (.cons (.call (.glo "signed" (.ref 135) (pz 127 12 18)) (.cons (.cmp .NotEq (.idx (lo 0 127 19 20) (nu 0 127 21 22) (pz 127 19 23)) (.idx (lo 1 127 27 28) (nu 0 127 29 30) (pz 127 27 31)) (pz 127 19 31)) (on (lo 4 127 33 41))) (pz 127 12 42)) (.cons (.call (.glo "signed" (.ref 135) (pz 127 44 50)) (.cons (.idx (lo 0 127 51 52) (nu 0 127 53 54) (pz 127 51 55)) (on (lo 5 127 57 61))) (pz 127 44 62)) .nil)) (pz 127 11 63)) (pz 127 4 63))
 .nil)))
noncomputable def Yw : List Str := ["x", "y", "w", "divrem", "quotient", "rest"]
noncomputable def Zu : Sts :=
 (.cons (.unp [(la 4 129 4 12), (la 5 129 14 18)] (.call (.glo "tdiv" (.ref 198) (pz 129 21 25)) (.cons (lo 0 129 26 27) (.cons (lo 1 129 29 30) (.cons (lo 2 129 32 33) (on (lo 3 129 35 41))))) (pz 129 21 42)) (pz 129 4 18) (pz 129 4 42))
 (.cons (.cond (.conj (.cmp .Gt (.bif .len (.cons (.idx (lo 5 130 11 15) (nu 1 130 16 17) (pz 130 11 18)) .nil) (pz 130 7 10) (pz 130 7 19)) (nu 0 130 22 23) (pz 130 7 23)) (.cmp .NotEq (.idx (lo 0 130 28 29) (nu 0 130 30 31) (pz 130 28 32)) (.idx (lo 1 130 36 37) (nu 0 130 38 39) (pz 130 36 40)) (pz 130 28 40)) (pz 130 7 40))
  (.cons (.ret (.tup (.cons (.tup (.cons (.boo true (pz 131 17 21)) (.cons (.call (.glo "add_limb" (.ref 93) (pz 131 23 31)) (.cons (.idx (lo 4 131 32 40) (nu 1 131 41 42) (pz 131 32 43)) (.cons (nu 1 131 45 46) (on (lo 2 131 48 49)))) (pz 131 23 50)) .nil)) (pz 131 16 51)) (.cons (.call (.glo "s_add" (.ref 177) (pz 131 53 58)) (.cons (lo 5 131 59 63) (.cons (lo 1 131 65 66) (on (lo 2 131 68 69)))) (pz 131 53 70)) .nil)) (pz 131 15 71)) (pz 131 8 71))
 .nil)
  .nil ⟨130, 4, 131, 71⟩)
 (.cons (.ret (.tup (.cons (lo 4 132 12 20) (on (lo 5 132 22 26))) (pz 132 11 27)) (pz 132 4 27))
 .nil)))
noncomputable def Qi : List Str := ["x", "n", "w", "found"]
noncomputable def Q8 : Sts :=
 (.cons (.cond (.cmp .GtE (lo 1 134 7 8) (nu 0 134 12 13) (pz 134 7 13))
  (.cons (.ret (.call (.glo "signed" (.ref 135) (pz 135 15 21)) (.cons (.idx (lo 0 135 22 23) (nu 0 135 24 25) (pz 135 22 26)) (.cons (.call (.glo "shift_left" (.ref 107) (pz 135 28 38)) (.cons (.idx (lo 0 135 39 40) (nu 1 135 41 42) (pz 135 39 43)) (.cons (lo 1 135 45 46) (on (lo 2 135 48 49)))) (pz 135 28 50)) .nil)) (pz 135 15 51)) (pz 135 8 51))
 .nil)
  .nil ⟨134, 4, 135, 51⟩)
 (.cons (.asg (la 3 136 4 9) (.call (.glo "shift_right" (.ref 114) (pz 136 12 23)) (.cons (.idx (lo 0 136 24 25) (nu 1 136 26 27) (pz 136 24 28)) (.cons (.neg (lo 1 136 31 32) (pz 136 30 32)) (on (lo 2 136 34 35)))) (pz 136 12 36)) (pz 136 4 36))
 (.cons (.cond (.conj (.val (.idx (lo 0 137 7 8) (nu 0 137 9 10) (pz 137 7 11))) (.cmp .Gt (.bif .len (.cons (.call (.glo "low" (.ref 128) (pz 137 20 23)) (.cons (.idx (lo 0 137 24 25) (nu 1 137 26 27) (pz 137 24 28)) (.cons (.neg (lo 1 137 31 32) (pz 137 30 32)) (on (lo 2 137 34 35)))) (pz 137 20 36)) .nil) (pz 137 16 19) (pz 137 16 37)) (nu 0 137 40 41) (pz 137 16 41)) (pz 137 7 41))
  (.cons (.asg (la 3 138 8 13) (.call (.glo "add_limb" (.ref 93) (pz 138 16 24)) (.cons (lo 3 138 25 30) (.cons (nu 1 138 32 33) (on (lo 2 138 35 36)))) (pz 138 16 37)) (pz 138 8 37))
 .nil)
  .nil ⟨137, 4, 138, 37⟩)
 (.cons (.ret (.call (.glo "signed" (.ref 135) (pz 139 11 17)) (.cons (.idx (lo 0 139 18 19) (nu 0 139 20 21) (pz 139 18 22)) (on (lo 3 139 24 29))) (pz 139 11 30)) (pz 139 4 30))
 .nil))))
noncomputable def bH : List Str := ["one", "other", "w", "mul", "found", "x", "y"]
noncomputable def cE : Sts :=
 (.cons (.asg (la 4 143 4 9) (.glo "NOUGHT" (.ref 214) (pz 143 12 18)) (pz 143 4 18))
 (.cons (.forr (.two 5 (pz 144 8 9) 6 (pz 144 11 12) (pz 144 8 12)) (.zip (lo 0 144 20 23) (lo 1 144 25 30) (pz 144 16 19) (pz 144 16 31))
  (.cons (.asg (la 4 145 8 13) (.call (.glo "s_add" (.ref 177) (pz 145 16 21)) (.cons (lo 4 145 22 27) (.cons (.call (.glo "s_mul" (.ref 191) (pz 145 29 34)) (.cons (lo 5 145 35 36) (.cons (lo 6 145 38 39) (.cons (lo 2 145 41 42) (on (lo 3 145 44 47))))) (pz 145 29 48)) (on (lo 2 145 50 51)))) (pz 145 16 52)) (pz 145 8 52))
 .nil) ⟨144, 4, 145, 52⟩)
 (.cons (.ret (lo 4 146 11 16) (pz 146 4 16))
 .nil)))
noncomputable def Om : List Str := ["one", "other", "many", "w", "mul"]
noncomputable def O6 : Sts :=
 (.cons (.ret (.comp (.call (.glo "s_sub" (.ref 184) (pz 148 12 17)) (.cons (lo 0 148 18 19) (.cons (.call (.glo "s_mul" (.ref 191) (pz 148 21 26)) (.cons (lo 1 148 27 28) (.cons (lo 2 148 30 34) (.cons (lo 4 148 36 37) (on (lo 3 148 39 42))))) (pz 148 21 43)) (on (lo 4 148 45 46)))) (pz 148 12 47)) (.two 0 (pz 148 52 53) 1 (pz 148 55 56) (pz 148 52 56)) (.zip (lo 0 148 64 67) (lo 1 148 69 74) (pz 148 60 63) (pz 148 60 75)) ⟨.function, [(".0", .local), ("x", .local), ("y", .local), ("s_sub", .globalImplicit), ("s_mul", .globalImplicit), ("many", .free), ("mul", .free), ("w", .free)], false, false, []⟩ ["x", "y", "many", "mul", "w"] [none, none, some 2, some 4, some 3] (pz 148 11 76)) (pz 148 4 76))
 .nil)
noncomputable def Gp : List Str := ["x", "y", "w", "divrem"]
noncomputable def Gr : Sts :=
 (.cons (.ret (.idx (.call (.glo "fdiv" (.ref 205) (pz 150 11 15)) (.cons (.call (.glo "s_add" (.ref 177) (pz 150 16 21)) (.cons (.call (.glo "s_shift" (.ref 212) (pz 150 22 29)) (.cons (lo 0 150 30 31) (.cons (nu 1 150 33 34) (on (lo 2 150 36 37)))) (pz 150 22 38)) (.cons (lo 1 150 40 41) (on (lo 2 150 43 44)))) (pz 150 16 45)) (.cons (.call (.glo "s_shift" (.ref 212) (pz 150 47 54)) (.cons (lo 1 150 55 56) (.cons (nu 1 150 58 59) (on (lo 2 150 61 62)))) (pz 150 47 63)) (.cons (lo 2 150 65 66) (on (lo 3 150 68 74))))) (pz 150 11 75)) (nu 0 150 76 77) (pz 150 11 78)) (pz 150 4 78))
 .nil)
noncomputable def Op : List Str := ["self", "rows", "top", "bottom", "w", "mul", "divrem"]
noncomputable def O9 : Sts :=
 (.cons (.asg (.attr (lo 0 154 8 12) 0 (pz 154 8 17)) (.comp (.slAll (lo 0 154 21 24) (pz 154 25 26) (pz 154 21 27)) (.one 0 (pz 154 32 35)) (.lst (lo 1 154 39 43)) ⟨.function, [(".0", .local), ("row", .local)], false, false, []⟩ ["row"] [none] (pz 154 20 44)) (pz 154 8 44))
 (.cons (.asg (.attr (lo 0 155 8 12) 1 (pz 155 8 16)) (.call (.glo "s_of" (.ref 142) (pz 155 19 23)) (.cons (lo 2 155 24 27) (on (lo 4 155 29 30))) (pz 155 19 31)) (pz 155 8 31))
 (.cons (.asg (.attr (lo 0 156 8 12) 2 (pz 156 8 19)) (.call (.glo "s_of" (.ref 142) (pz 156 22 26)) (.cons (lo 3 156 27 33) (on (lo 4 156 35 36))) (pz 156 22 37)) (pz 156 8 37))
 (.cons (.asg (.attr (lo 0 157 8 12) 3 (pz 157 8 14)) (lo 4 157 17 18) (pz 157 8 18))
 (.cons (.asg (.attr (lo 0 158 8 12) 4 (pz 158 8 16)) (lo 5 158 19 22) (pz 158 8 22))
 (.cons (.asg (.attr (lo 0 159 8 12) 5 (pz 159 8 19)) (lo 6 159 22 28) (pz 159 8 28))
 (.cons (.asg (.attr (lo 0 160 8 12) 6 (pz 160 8 18)) (.lst (.cons (.tup (.cons (.boo false (pz 160 23 28)) (.cons (.lst (on (nu 1 160 31 32)) (pz 160 30 33)) .nil)) (pz 160 22 34)) .nil) (pz 160 21 35)) (pz 160 8 35))
 (.cons (.asg (.attr (lo 0 161 8 12) 7 (pz 161 8 18)) (.lst .nil (pz 161 21 23)) (pz 161 8 23))
 .nil))))))))
noncomputable def I7 : List Str := ["self", "x", "y"]
noncomputable def Jd : Sts :=
 (.cons (.ret (.call (.glo "s_mul" (.ref 191) (pz 164 15 20)) (.cons (lo 1 164 21 22) (.cons (lo 2 164 24 25) (.cons (.attr (lo 0 164 27 31) 3 (pz 164 27 33)) (.cons (.attr (lo 0 164 35 39) 4 (pz 164 35 43)) .nil)))) (pz 164 15 44)) (pz 164 8 44))
 .nil)
noncomputable def Qk : List Str := ["self", "x", "y"]
noncomputable def Ra : Sts :=
 (.cons (.ret (.idx (.call (.glo "tdiv" (.ref 198) (pz 167 15 19)) (.cons (lo 1 167 20 21) (.cons (lo 2 167 23 24) (.cons (.attr (lo 0 167 26 30) 3 (pz 167 26 32)) (.cons (.attr (lo 0 167 34 38) 5 (pz 167 34 45)) .nil)))) (pz 167 15 46)) (nu 0 167 47 48) (pz 167 15 49)) (pz 167 8 49))
 .nil)
noncomputable def M8 : List Str := ["self", "a", "b", "c", "d"]
noncomputable def Nr : Sts :=
 (.cons (.ret (.call (.glo "s_sub" (.ref 184) (pz 170 15 20)) (.cons (.meth (lo 0 170 21 25) "product_of" 252 (.cons (lo 1 170 37 38) (on (lo 2 170 40 41))) (pz 170 21 36) (pz 170 21 42)) (.cons (.meth (lo 0 170 44 48) "product_of" 252 (.cons (lo 3 170 60 61) (on (lo 4 170 63 64))) (pz 170 44 59) (pz 170 44 65)) (.cons (.attr (lo 0 170 67 71) 3 (pz 170 67 73)) .nil))) (pz 170 15 74)) (pz 170 8 74))
 .nil)
noncomputable def Ak : List Str := ["self", "k", "j", "found", "i", "part"]
noncomputable def Au : Sts :=
 (.cons (.expr (.app (.attr (lo 0 173 8 12) 7 (pz 173 8 18)) (.lst .nil (pz 173 26 28)) (pz 173 8 25) (pz 173 8 29)) (pz 173 8 29))
 (.cons (.forr (.one 2 (pz 174 12 13)) (.range1 (.bin .Add (lo 1 174 23 24) (nu 1 174 27 28) (pz 174 23 28)) (pz 174 17 22) (pz 174 17 29))
  (.cons (.asg (la 3 175 12 17) (.call (.glo "dot" (.ref 221) (pz 175 20 23)) (.cons (.idx (.attr (lo 0 175 24 28) 0 (pz 175 24 33)) (lo 1 175 34 35) (pz 175 24 36)) (.cons (.idx (.attr (lo 0 175 38 42) 0 (pz 175 38 47)) (lo 2 175 48 49) (pz 175 38 50)) (.cons (.attr (lo 0 175 52 56) 3 (pz 175 52 58)) (.cons (.attr (lo 0 175 60 64) 4 (pz 175 60 68)) .nil)))) (pz 175 20 69)) (pz 175 12 69))
 (.cons (.forr (.one 4 (pz 176 16 17)) (.range1 (lo 2 176 27 28) (pz 176 21 26) (pz 176 21 29))
  (.cons (.asg (la 5 177 16 20) (.ite (.cmp .Eq (lo 2 177 43 44) (lo 1 177 48 49) (pz 177 43 49)) (.idx (.idx (.attr (lo 0 177 23 27) 7 (pz 177 23 33)) (lo 1 177 34 35) (pz 177 23 36)) (lo 4 177 37 38) (pz 177 23 39)) (.idx (.idx (.attr (lo 0 177 55 59) 7 (pz 177 55 65)) (lo 2 177 66 67) (pz 177 55 68)) (lo 4 177 69 70) (pz 177 55 71)) (pz 177 23 71)) (pz 177 16 71))
 (.cons (.asg (la 3 178 16 21) (.meth (lo 0 178 24 28) "exact" 259 (.cons (.meth (lo 0 178 35 39) "crossed" 266 (.cons (.idx (.attr (lo 0 178 48 52) 6 (pz 178 48 58)) (.bin .Add (lo 4 178 59 60) (nu 1 178 63 64) (pz 178 59 64)) (pz 178 48 65)) (.cons (lo 3 178 67 72) (.cons (.idx (.idx (.attr (lo 0 178 74 78) 7 (pz 178 74 84)) (lo 1 178 85 86) (pz 178 74 87)) (lo 4 178 88 89) (pz 178 74 90)) (on (lo 5 178 92 96))))) (pz 178 35 47) (pz 178 35 97)) (.cons (.idx (.attr (lo 0 178 99 103) 6 (pz 178 99 109)) (lo 4 178 110 111) (pz 178 99 112)) .nil)) (pz 178 24 34) (pz 178 24 113)) (pz 178 16 113))
 .nil)) ⟨176, 12, 178, 113⟩)
 (.cons (.cond (.cmp .Lt (lo 2 179 15 16) (lo 1 179 19 20) (pz 179 15 20))
  (.cons (.expr (.app (.idx (.attr (lo 0 180 16 20) 7 (pz 180 16 26)) (lo 1 180 27 28) (pz 180 16 29)) (lo 3 180 37 42) (pz 180 16 36) (pz 180 16 43)) (pz 180 16 43))
 .nil)
  (.cons (.expr (.app (.attr (lo 0 182 16 20) 6 (pz 182 16 26)) (lo 3 182 34 39) (pz 182 16 33) (pz 182 16 40)) (pz 182 16 40))
 .nil) ⟨179, 12, 182, 40⟩)
 .nil))) ⟨174, 8, 182, 40⟩)
 (.cons (.cond (.cmp .Eq (.call (.glo "s_sign" (.ref 163) (pz 183 11 17)) (.cons (.idx (.attr (lo 0 183 18 22) 6 (pz 183 18 28)) (.bin .Add (lo 1 183 29 30) (nu 1 183 33 34) (pz 183 29 34)) (pz 183 18 35)) .nil) (pz 183 11 36)) (nu 0 183 40 41) (pz 183 11 41))
  (.cons (.dead (.Raise (some (.Call (.Name "OutOfRange" (pz 184 18 28)) [.Constant (.str "rows that depend on one another") 0 (pz 184 29 62)] [] (pz 184 18 63))) none (pz 184 12 63)))
 .nil)
  .nil ⟨183, 8, 184, 63⟩)
 .nil)))
noncomputable def M6 : List Str := ["self", "k", "j", "part", "size", "many", "i"]
noncomputable def Nq : Sts :=
 (.cons (.asgs [(la 3 187 8 12), (la 4 187 14 18)] (.cons (.idx (.idx (.attr (lo 0 187 22 26) 7 (pz 187 22 32)) (lo 1 187 33 34) (pz 187 22 35)) (lo 2 187 36 37) (pz 187 22 38)) (.cons (.idx (.attr (lo 0 187 40 44) 6 (pz 187 40 50)) (.bin .Add (lo 2 187 51 52) (nu 1 187 55 56) (pz 187 51 56)) (pz 187 40 57)) .nil)) (pz 187 8 18) (pz 187 21 58) (pz 187 8 58))
 (.cons (.cond (.cmp .LtE (.call (.glo "s_compare" (.ref 170) (pz 188 11 20)) (.cons (.call (.glo "s_shift" (.ref 212) (pz 188 21 28)) (.cons (.call (.glo "s_abs" (.ref 156) (pz 188 29 34)) (on (lo 3 188 35 39)) (pz 188 29 40)) (.cons (nu 1 188 42 43) (.cons (.attr (lo 0 188 45 49) 3 (pz 188 45 51)) .nil))) (pz 188 21 52)) (on (lo 4 188 54 58))) (pz 188 11 59)) (nu 0 188 63 64) (pz 188 11 64))
  (.cons (.ret0 (pz 189 12 18))
 .nil)
  .nil ⟨188, 8, 189, 18⟩)
 (.cons (.asg (la 5 190 8 12) (.call (.glo "nearest_quotient" (.ref 233) (pz 190 15 31)) (.cons (lo 3 190 32 36) (.cons (lo 4 190 38 42) (.cons (.attr (lo 0 190 44 48) 3 (pz 190 44 50)) (.cons (.attr (lo 0 190 52 56) 5 (pz 190 52 63)) .nil)))) (pz 190 15 64)) (pz 190 8 64))
 (.cons (.asg (.idx (.attr (lo 0 191 8 12) 0 (pz 191 8 17)) (lo 1 191 18 19) (pz 191 8 20)) (.call (.glo "row_less" (.ref 226) (pz 191 23 31)) (.cons (.idx (.attr (lo 0 191 32 36) 0 (pz 191 32 41)) (lo 1 191 42 43) (pz 191 32 44)) (.cons (.idx (.attr (lo 0 191 46 50) 0 (pz 191 46 55)) (lo 2 191 56 57) (pz 191 46 58)) (.cons (lo 5 191 60 64) (.cons (.attr (lo 0 191 66 70) 3 (pz 191 66 72)) (.cons (.attr (lo 0 191 74 78) 4 (pz 191 74 82)) .nil))))) (pz 191 23 83)) (pz 191 8 83))
 (.cons (.asg (.idx (.idx (.attr (lo 0 192 8 12) 7 (pz 192 8 18)) (lo 1 192 19 20) (pz 192 8 21)) (lo 2 192 22 23) (pz 192 8 24)) (.call (.glo "s_sub" (.ref 184) (pz 192 27 32)) (.cons (lo 3 192 33 37) (.cons (.meth (lo 0 192 39 43) "product_of" 252 (.cons (lo 5 192 55 59) (on (lo 4 192 61 65))) (pz 192 39 54) (pz 192 39 66)) (.cons (.attr (lo 0 192 68 72) 3 (pz 192 68 74)) .nil))) (pz 192 27 75)) (pz 192 8 75))
 (.cons (.forr (.one 6 (pz 193 12 13)) (.range1 (lo 2 193 23 24) (pz 193 17 22) (pz 193 17 25))
  (.cons (.asg (.idx (.idx (.attr (lo 0 194 12 16) 7 (pz 194 12 22)) (lo 1 194 23 24) (pz 194 12 25)) (lo 6 194 26 27) (pz 194 12 28)) (.call (.glo "s_sub" (.ref 184) (pz 194 31 36)) (.cons (.idx (.idx (.attr (lo 0 194 37 41) 7 (pz 194 37 47)) (lo 1 194 48 49) (pz 194 37 50)) (lo 6 194 51 52) (pz 194 37 53)) (.cons (.meth (lo 0 194 55 59) "product_of" 252 (.cons (lo 5 194 71 75) (.cons (.idx (.idx (.attr (lo 0 194 77 81) 7 (pz 194 77 87)) (lo 2 194 88 89) (pz 194 77 90)) (lo 6 194 91 92) (pz 194 77 93)) .nil)) (pz 194 55 70) (pz 194 55 94)) (.cons (.attr (lo 0 194 96 100) 3 (pz 194 96 102)) .nil))) (pz 194 31 103)) (pz 194 12 103))
 .nil) ⟨193, 8, 194, 103⟩)
 .nil))))))
noncomputable def I8 : List Str := ["self", "k", "part", "size", "here", "bound"]
noncomputable def Je : Sts :=
 (.cons (.asgs [(la 2 197 8 12), (la 3 197 14 18)] (.cons (.idx (.idx (.attr (lo 0 197 22 26) 7 (pz 197 22 32)) (lo 1 197 33 34) (pz 197 22 35)) (.bin .Sub (lo 1 197 36 37) (nu 1 197 40 41) (pz 197 36 41)) (pz 197 22 42)) (.cons (.idx (.attr (lo 0 197 44 48) 6 (pz 197 44 54)) (lo 1 197 55 56) (pz 197 44 57)) .nil)) (pz 197 8 18) (pz 197 21 58) (pz 197 8 58))
 (.cons (.asg (la 4 198 8 12) (.call (.glo "s_add" (.ref 177) (pz 198 15 20)) (.cons (.meth (lo 0 198 21 25) "product_of" 252 (.cons (.idx (.attr (lo 0 198 37 41) 6 (pz 198 37 47)) (.bin .Add (lo 1 198 48 49) (nu 1 198 52 53) (pz 198 48 53)) (pz 198 37 54)) (.cons (.idx (.attr (lo 0 198 56 60) 6 (pz 198 56 66)) (.bin .Sub (lo 1 198 67 68) (nu 1 198 71 72) (pz 198 67 72)) (pz 198 56 73)) .nil)) (pz 198 21 36) (pz 198 21 74)) (.cons (.meth (lo 0 198 76 80) "product_of" 252 (.cons (lo 2 198 92 96) (on (lo 2 198 98 102))) (pz 198 76 91) (pz 198 76 103)) (.cons (.attr (lo 0 198 105 109) 3 (pz 198 105 111)) .nil))) (pz 198 15 112)) (pz 198 8 112))
 (.cons (.asg (la 5 199 8 13) (.meth (lo 0 199 16 20) "product_of" 252 (.cons (.meth (lo 0 199 32 36) "product_of" 252 (.cons (lo 3 199 48 52) (on (lo 3 199 54 58))) (pz 199 32 47) (pz 199 32 59)) (.cons (.attr (lo 0 199 61 65) 1 (pz 199 61 69)) .nil)) (pz 199 16 31) (pz 199 16 70)) (pz 199 8 70))
 (.cons (.ret (.cmp .GtE (.call (.glo "s_compare" (.ref 170) (pz 200 15 24)) (.cons (.meth (lo 0 200 25 29) "product_of" 252 (.cons (lo 4 200 41 45) (.cons (.attr (lo 0 200 47 51) 2 (pz 200 47 58)) .nil)) (pz 200 25 40) (pz 200 25 59)) (on (lo 5 200 61 66))) (pz 200 15 67)) (nu 0 200 71 72) (pz 200 15 72)) (pz 200 8 72))
 .nil))))
noncomputable def Ll : List Str := ["self", "k", "part", "last", "ahead", "now", "i", "here", "told"]
noncomputable def Lw : Sts :=
 (.cons (.asgs [(.idx (.attr (lo 0 203 8 12) 0 (pz 203 8 17)) (.bin .Sub (lo 1 203 18 19) (nu 1 203 22 23) (pz 203 18 23)) (pz 203 8 24)), (.idx (.attr (lo 0 203 26 30) 0 (pz 203 26 35)) (lo 1 203 36 37) (pz 203 26 38))] (.cons (.idx (.attr (lo 0 203 42 46) 0 (pz 203 42 51)) (lo 1 203 52 53) (pz 203 42 54)) (.cons (.idx (.attr (lo 0 203 56 60) 0 (pz 203 56 65)) (.bin .Sub (lo 1 203 66 67) (nu 1 203 70 71) (pz 203 66 71)) (pz 203 56 72)) .nil)) (pz 203 8 38) (pz 203 41 73) (pz 203 8 73))
 (.cons (.asgs [(la 2 204 8 12), (la 3 204 14 18)] (.cons (.idx (.idx (.attr (lo 0 204 22 26) 7 (pz 204 22 32)) (lo 1 204 33 34) (pz 204 22 35)) (.bin .Sub (lo 1 204 36 37) (nu 1 204 40 41) (pz 204 36 41)) (pz 204 22 42)) (.cons (.idx (.attr (lo 0 204 44 48) 6 (pz 204 44 54)) (.bin .Add (lo 1 204 55 56) (nu 1 204 59 60) (pz 204 55 60)) (pz 204 44 61)) .nil)) (pz 204 8 18) (pz 204 21 62) (pz 204 8 62))
 (.cons (.asg (la 4 205 8 13) (.idx (.attr (lo 0 205 16 20) 7 (pz 205 16 26)) (.bin .Sub (lo 1 205 27 28) (nu 1 205 31 32) (pz 205 27 32)) (pz 205 16 33)) (pz 205 8 33))
 (.cons (.asg (.idx (.attr (lo 0 206 8 12) 7 (pz 206 8 18)) (.bin .Sub (lo 1 206 19 20) (nu 1 206 23 24) (pz 206 19 24)) (pz 206 8 25)) (.slTo (.idx (.attr (lo 0 206 28 32) 7 (pz 206 28 38)) (lo 1 206 39 40) (pz 206 28 41)) (.bin .Sub (lo 1 206 43 44) (nu 1 206 47 48) (pz 206 43 48)) (pz 206 42 48) (pz 206 28 49)) (pz 206 8 49))
 (.cons (.asg (.idx (.attr (lo 0 207 8 12) 7 (pz 207 8 18)) (lo 1 207 19 20) (pz 207 8 21)) (.bin .Add (lo 4 207 24 29) (.lst (on (lo 2 207 33 37)) (pz 207 32 38)) (pz 207 24 38)) (pz 207 8 38))
 (.cons (.asg (la 5 208 8 11) (.call (.glo "s_add" (.ref 177) (pz 208 14 19)) (.cons (.meth (lo 0 208 20 24) "product_of" 252 (.cons (.idx (.attr (lo 0 208 36 40) 6 (pz 208 36 46)) (.bin .Sub (lo 1 208 47 48) (nu 1 208 51 52) (pz 208 47 52)) (pz 208 36 53)) (on (lo 3 208 55 59))) (pz 208 20 35) (pz 208 20 60)) (.cons (.meth (lo 0 208 62 66) "product_of" 252 (.cons (lo 2 208 78 82) (on (lo 2 208 84 88))) (pz 208 62 77) (pz 208 62 89)) (.cons (.attr (lo 0 208 91 95) 3 (pz 208 91 97)) .nil))) (pz 208 14 98)) (pz 208 8 98))
 (.cons (.asg (la 5 209 8 11) (.meth (lo 0 209 14 18) "exact" 259 (.cons (lo 5 209 25 28) (.cons (.idx (.attr (lo 0 209 30 34) 6 (pz 209 30 40)) (lo 1 209 41 42) (pz 209 30 43)) .nil)) (pz 209 14 24) (pz 209 14 44)) (pz 209 8 44))
 (.cons (.forr (.one 6 (pz 210 12 13)) (.range2 (.bin .Add (lo 1 210 23 24) (nu 1 210 27 28) (pz 210 23 28)) (.bif .len (.cons (.attr (lo 0 210 34 38) 7 (pz 210 34 44)) .nil) (pz 210 30 33) (pz 210 30 45)) (pz 210 17 22) (pz 210 17 46))
  (.cons (.asg (la 7 211 12 16) (.idx (.idx (.attr (lo 0 211 19 23) 7 (pz 211 19 29)) (lo 6 211 30 31) (pz 211 19 32)) (lo 1 211 33 34) (pz 211 19 35)) (pz 211 12 35))
 (.cons (.asg (.idx (.idx (.attr (lo 0 212 12 16) 7 (pz 212 12 22)) (lo 6 212 23 24) (pz 212 12 25)) (lo 1 212 26 27) (pz 212 12 28)) (.meth (lo 0 212 31 35) "exact" 259 (.cons (.meth (lo 0 212 42 46) "crossed" 266 (.cons (lo 3 212 55 59) (.cons (.idx (.idx (.attr (lo 0 212 61 65) 7 (pz 212 61 71)) (lo 6 212 72 73) (pz 212 61 74)) (.bin .Sub (lo 1 212 75 76) (nu 1 212 79 80) (pz 212 75 80)) (pz 212 61 81)) (.cons (lo 2 212 83 87) (on (lo 7 212 89 93))))) (pz 212 42 54) (pz 212 42 94)) (.cons (.idx (.attr (lo 0 212 96 100) 6 (pz 212 96 106)) (lo 1 212 107 108) (pz 212 96 109)) .nil)) (pz 212 31 41) (pz 212 31 110)) (pz 212 12 110))
 (.cons (.asg (la 8 213 12 16) (.call (.glo "s_add" (.ref 177) (pz 213 19 24)) (.cons (.meth (lo 0 213 25 29) "product_of" 252 (.cons (lo 5 213 41 44) (on (lo 7 213 46 50))) (pz 213 25 40) (pz 213 25 51)) (.cons (.meth (lo 0 213 53 57) "product_of" 252 (.cons (lo 2 213 69 73) (.cons (.idx (.idx (.attr (lo 0 213 75 79) 7 (pz 213 75 85)) (lo 6 213 86 87) (pz 213 75 88)) (lo 1 213 89 90) (pz 213 75 91)) .nil)) (pz 213 53 68) (pz 213 53 92)) (.cons (.attr (lo 0 213 94 98) 3 (pz 213 94 100)) .nil))) (pz 213 19 101)) (pz 213 12 101))
 (.cons (.asg (.idx (.idx (.attr (lo 0 214 12 16) 7 (pz 214 12 22)) (lo 6 214 23 24) (pz 214 12 25)) (.bin .Sub (lo 1 214 26 27) (nu 1 214 30 31) (pz 214 26 31)) (pz 214 12 32)) (.meth (lo 0 214 35 39) "exact" 259 (.cons (lo 8 214 46 50) (on (lo 3 214 52 56))) (pz 214 35 45) (pz 214 35 57)) (pz 214 12 57))
 .nil)))) ⟨210, 8, 214, 57⟩)
 (.cons (.asg (.idx (.attr (lo 0 215 8 12) 6 (pz 215 8 18)) (lo 1 215 19 20) (pz 215 8 21)) (lo 5 215 24 27) (pz 215 8 27))
 .nil)))))))))
noncomputable def Wb : List Str := ["self", "k", "j"]
noncomputable def W8 : Sts :=
 (.cons (.asg (la 1 218 8 9) (nu 0 218 12 13) (pz 218 8 13))
 (.cons (.whil (.cmp .Lt (lo 1 219 14 15) (.bif .len (.cons (.attr (lo 0 219 22 26) 0 (pz 219 22 31)) .nil) (pz 219 18 21) (pz 219 18 32)) (pz 219 14 32))
  (.cons (.cond (.cmp .Eq (lo 1 220 15 16) (.bif .len (.cons (.attr (lo 0 220 24 28) 7 (pz 220 24 34)) .nil) (pz 220 20 23) (pz 220 20 35)) (pz 220 15 35))
  (.cons (.expr (.meth (lo 0 221 16 20) "take_in" 273 (on (lo 1 221 29 30)) (pz 221 16 28) (pz 221 16 31)) (pz 221 16 31))
 .nil)
  .nil ⟨220, 12, 221, 31⟩)
 (.cons (.cond (.cmp .Gt (lo 1 222 15 16) (nu 0 222 19 20) (pz 222 15 20))
  (.cons (.expr (.meth (lo 0 223 16 20) "shorten" 280 (.cons (lo 1 223 29 30) (.cons (.bin .Sub (lo 1 223 32 33) (nu 1 223 36 37) (pz 223 32 37)) .nil)) (pz 223 16 28) (pz 223 16 38)) (pz 223 16 38))
 .nil)
  .nil ⟨222, 12, 223, 38⟩)
 (.cons (.cond (.conj (.cmp .Gt (lo 1 224 15 16) (nu 0 224 19 20) (pz 224 15 20)) (.not (.val (.meth (lo 0 224 30 34) "is_upright" 287 (on (lo 1 224 46 47)) (pz 224 30 45) (pz 224 30 48))) (pz 224 26 48)) (pz 224 15 49))
  (.cons (.expr (.meth (lo 0 225 16 20) "exchange" 294 (on (lo 1 225 30 31)) (pz 225 16 29) (pz 225 16 32)) (pz 225 16 32))
 (.cons (.asg (la 1 226 16 17) (.bif .max (.cons (nu 1 226 24 25) (.cons (.bin .Sub (lo 1 226 27 28) (nu 1 226 31 32) (pz 226 27 32)) .nil)) (pz 226 20 23) (pz 226 20 33)) (pz 226 16 33))
 .nil))
  (.cons (.forr (.one 2 (pz 228 20 21)) (.range3 (.bin .Sub (lo 1 228 31 32) (nu 2 228 35 36) (pz 228 31 36)) (.neg (nu 1 228 39 40) (pz 228 38 40)) (.neg (nu 1 228 43 44) (pz 228 42 44)) (pz 228 25 30) (pz 228 25 45))
  (.cons (.expr (.meth (lo 0 229 20 24) "shorten" 280 (.cons (lo 1 229 33 34) (on (lo 2 229 36 37))) (pz 229 20 32) (pz 229 20 38)) (pz 229 20 38))
 .nil) ⟨228, 16, 229, 38⟩)
 (.cons (.aug 1 (pz 230 16 17) .Add (nu 1 230 21 22) (pz 230 16 22))
 .nil)) ⟨224, 12, 230, 22⟩)
 .nil))) ⟨219, 8, 230, 22⟩)
 .nil))
noncomputable def Li : List Str := ["a", "b", "w", "found", "mask", "at", "limb", "carry", "spot", "other"]
noncomputable def Lu : Sts :=
 (.cons (.asgs [(la 3 233 4 9), (la 4 233 11 15)] (.cons (.bin .Mult (.lst (on (nu 0 233 20 21)) (pz 233 19 22)) (.bin .Add (.bif .len (on (lo 0 233 30 31)) (pz 233 26 29) (pz 233 26 32)) (.bif .len (on (lo 1 233 39 40)) (pz 233 35 38) (pz 233 35 41)) (pz 233 26 41)) (pz 233 19 42)) (.cons (.bin .Sub (.bin .LShift (nu 1 233 45 46) (lo 2 233 50 51) (pz 233 45 51)) (nu 1 233 55 56) (pz 233 44 56)) .nil)) (pz 233 4 15) (pz 233 18 57) (pz 233 4 57))
 (.cons (.forr (.two 5 (pz 234 8 10) 6 (pz 234 12 16) (pz 234 8 16)) (.enum (lo 0 234 30 31) (pz 234 20 29) (pz 234 20 32))
  (.cons (.asg (la 7 235 8 13) (nu 0 235 16 17) (pz 235 8 17))
 (.cons (.forr (.two 8 (pz 236 12 16) 9 (pz 236 18 23) (pz 236 12 23)) (.enum (lo 1 236 37 38) (pz 236 27 36) (pz 236 27 39))
  (.cons (.aug 7 (pz 237 12 17) .Add (.bin .Add (.idx (lo 3 237 21 26) (.bin .Add (lo 5 237 27 29) (lo 8 237 32 36) (pz 237 27 36)) (pz 237 21 37)) (.bin .Mult (lo 6 237 40 44) (lo 9 237 47 52) (pz 237 40 52)) (pz 237 21 52)) (pz 237 12 52))
 (.cons (.asg (.idx (lo 3 238 12 17) (.bin .Add (lo 5 238 18 20) (lo 8 238 23 27) (pz 238 18 27)) (pz 238 12 28)) (.bin .BitAnd (lo 7 238 31 36) (lo 4 238 39 43) (pz 238 31 43)) (pz 238 12 43))
 (.cons (.aug 7 (pz 239 12 17) .RShift (lo 2 239 22 23) (pz 239 12 23))
 .nil))) ⟨236, 8, 239, 23⟩)
 (.cons (.asg (.idx (lo 3 240 8 13) (.bin .Add (lo 5 240 14 16) (.bif .len (on (lo 1 240 23 24)) (pz 240 19 22) (pz 240 19 25)) (pz 240 14 25)) (pz 240 8 26)) (lo 7 240 29 34) (pz 240 8 34))
 .nil))) ⟨234, 4, 240, 34⟩)
 (.cons (.ret (.call (.glo "normal" (.ref 58) (pz 241 11 17)) (on (lo 3 241 18 23)) (pz 241 11 24)) (pz 241 4 24))
 .nil)))
noncomputable def I6 : List Str := ["a", "b", "w", "quotient", "rest"]
noncomputable def Jc : Sts :=
 (.cons (.unp [(la 3 243 4 12), (la 4 243 14 18)] (.call (.glo "divrem_limb" (.ref 100) (pz 243 21 32)) (.cons (lo 0 243 33 34) (.cons (.idx (lo 1 243 36 37) (nu 0 243 38 39) (pz 243 36 40)) (on (lo 2 243 42 43)))) (pz 243 21 44)) (pz 243 4 18) (pz 243 4 44))
 (.cons (.ret (.tup (.cons (lo 3 244 12 20) (.cons (.ite (.cmp .Gt (lo 4 244 32 36) (nu 0 244 39 40) (pz 244 32 40)) (.lst (on (lo 4 244 23 27)) (pz 244 22 28)) (.lst .nil (pz 244 46 48)) (pz 244 22 48)) .nil)) (pz 244 11 49)) (pz 244 4 49))
 .nil))
noncomputable def I5 : List Str := ["top", "first", "second", "w", "high", "base", "limb", "rest"]
noncomputable def Jb : Sts :=
 (.cons (.asgs [(la 4 246 4 8), (la 5 246 10 14)] (.cons (.bin .BitOr (.bin .LShift (.idx (lo 0 246 18 21) (nu 2 246 22 23) (pz 246 18 24)) (lo 3 246 28 29) (pz 246 18 29)) (.idx (lo 0 246 32 35) (nu 1 246 36 37) (pz 246 32 38)) (pz 246 18 38)) (.cons (.bin .LShift (nu 1 246 40 41) (lo 3 246 45 46) (pz 246 40 46)) .nil)) (pz 246 4 14) (pz 246 17 47) (pz 246 4 47))
 (.cons (.asg (la 6 247 4 8) (.bif .min (.cons (.bin .FloorDiv (lo 4 247 15 19) (lo 1 247 23 28) (pz 247 15 28)) (.cons (.bin .Sub (lo 5 247 30 34) (nu 1 247 37 38) (pz 247 30 38)) .nil)) (pz 247 11 14) (pz 247 11 39)) (pz 247 4 39))
 (.cons (.asg (la 7 248 4 8) (.bin .Sub (lo 4 248 11 15) (.bin .Mult (lo 6 248 18 22) (lo 1 248 25 30) (pz 248 18 30)) (pz 248 11 30)) (pz 248 4 30))
 (.cons (.whil (.conj (.cmp .Lt (lo 7 249 10 14) (lo 5 249 17 21) (pz 249 10 21)) (.cmp .Gt (.bin .Mult (lo 6 249 26 30) (lo 2 249 33 39) (pz 249 26 39)) (.bin .BitOr (.bin .LShift (lo 7 249 42 46) (lo 3 249 50 51) (pz 249 42 51)) (.idx (lo 0 249 54 57) (nu 0 249 58 59) (pz 249 54 60)) (pz 249 42 60)) (pz 249 26 60)) (pz 249 10 60))
  (.cons (.aug 6 (pz 250 8 12) .Sub (nu 1 250 16 17) (pz 250 8 17))
 (.cons (.aug 7 (pz 251 8 12) .Add (lo 1 251 16 21) (pz 251 8 21))
 .nil)) ⟨249, 4, 251, 21⟩)
 (.cons (.ret (lo 6 252 11 15) (pz 252 4 15))
 .nil)))))
noncomputable def Mw : List Str := ["rest", "b", "limb", "at", "w", "carry", "base", "spot", "other", "here"]
noncomputable def Nk : Sts :=
 (.cons (.asgs [(la 5 254 4 9), (la 6 254 11 15)] (.cons (nu 0 254 19 20) (.cons (.bin .LShift (nu 1 254 22 23) (lo 4 254 27 28) (pz 254 22 28)) .nil)) (pz 254 4 15) (pz 254 18 29) (pz 254 4 29))
 (.cons (.forr (.two 7 (pz 255 8 12) 8 (pz 255 14 19) (pz 255 8 19)) (.enum (lo 1 255 33 34) (pz 255 23 32) (pz 255 23 35))
  (.cons (.asg (la 9 256 8 12) (.bin .Sub (.idx (lo 0 256 15 19) (.bin .Add (lo 3 256 20 22) (lo 7 256 25 29) (pz 256 20 29)) (pz 256 15 30)) (.bin .Mod (.bin .Add (.bin .Mult (lo 2 256 34 38) (lo 8 256 41 46) (pz 256 34 46)) (lo 5 256 49 54) (pz 256 34 54)) (lo 6 256 58 62) (pz 256 33 62)) (pz 256 15 62)) (pz 256 8 62))
 (.cons (.asg (la 5 257 8 13) (.bin .Add (.bin .FloorDiv (.bin .Add (.bin .Mult (lo 2 257 17 21) (lo 8 257 24 29) (pz 257 17 29)) (lo 5 257 32 37) (pz 257 17 37)) (lo 6 257 42 46) (pz 257 16 46)) (.ite (.cmp .Lt (lo 9 257 55 59) (nu 0 257 62 63) (pz 257 55 63)) (nu 1 257 50 51) (nu 0 257 69 70) (pz 257 50 70)) (pz 257 16 71)) (pz 257 8 71))
 (.cons (.asg (.idx (lo 0 258 8 12) (.bin .Add (lo 3 258 13 15) (lo 7 258 18 22) (pz 258 13 22)) (pz 258 8 23)) (.ite (.cmp .Lt (lo 9 258 41 45) (nu 0 258 48 49) (pz 258 41 49)) (.bin .Add (lo 9 258 26 30) (lo 6 258 33 37) (pz 258 26 37)) (lo 9 258 55 59) (pz 258 26 59)) (pz 258 8 59))
 .nil))) ⟨255, 4, 258, 59⟩)
 (.cons (.asg (la 9 259 4 8) (.bin .Sub (.idx (lo 0 259 11 15) (.bin .Add (lo 3 259 16 18) (.bif .len (on (lo 1 259 25 26)) (pz 259 21 24) (pz 259 21 27)) (pz 259 16 27)) (pz 259 11 28)) (lo 5 259 31 36) (pz 259 11 36)) (pz 259 4 36))
 (.cons (.asg (.idx (lo 0 260 4 8) (.bin .Add (lo 3 260 9 11) (.bif .len (on (lo 1 260 18 19)) (pz 260 14 17) (pz 260 14 20)) (pz 260 9 20)) (pz 260 4 21)) (.ite (.cmp .Lt (lo 9 260 39 43) (nu 0 260 46 47) (pz 260 39 47)) (.bin .Add (lo 9 260 24 28) (lo 6 260 31 35) (pz 260 24 35)) (lo 9 260 53 57) (pz 260 24 57)) (pz 260 4 57))
 (.cons (.ret (.ite (.cmp .Lt (lo 9 261 16 20) (nu 0 261 23 24) (pz 261 16 24)) (nu 1 261 11 12) (nu 0 261 30 31) (pz 261 11 31)) (pz 261 4 31))
 .nil)))))
noncomputable def On : List Str := ["rest", "b", "at", "w", "carry", "mask", "spot", "other"]
noncomputable def O7 : Sts :=
 (.cons (.asgs [(la 4 263 4 9), (la 5 263 11 15)] (.cons (nu 0 263 19 20) (.cons (.bin .Sub (.bin .LShift (nu 1 263 23 24) (lo 3 263 28 29) (pz 263 23 29)) (nu 1 263 33 34) (pz 263 22 34)) .nil)) (pz 263 4 15) (pz 263 18 35) (pz 263 4 35))
 (.cons (.forr (.two 6 (pz 264 8 12) 7 (pz 264 14 19) (pz 264 8 19)) (.enum (lo 1 264 33 34) (pz 264 23 32) (pz 264 23 35))
  (.cons (.aug 4 (pz 265 8 13) .Add (.bin .Add (.idx (lo 0 265 17 21) (.bin .Add (lo 2 265 22 24) (lo 6 265 27 31) (pz 265 22 31)) (pz 265 17 32)) (lo 7 265 35 40) (pz 265 17 40)) (pz 265 8 40))
 (.cons (.asg (.idx (lo 0 266 8 12) (.bin .Add (lo 2 266 13 15) (lo 6 266 18 22) (pz 266 13 22)) (pz 266 8 23)) (.bin .BitAnd (lo 4 266 26 31) (lo 5 266 34 38) (pz 266 26 38)) (pz 266 8 38))
 (.cons (.aug 4 (pz 267 8 13) .RShift (lo 3 267 18 19) (pz 267 8 19))
 .nil))) ⟨264, 4, 267, 19⟩)
 (.cons (.asg (.idx (lo 0 268 4 8) (.bin .Add (lo 2 268 9 11) (.bif .len (on (lo 1 268 18 19)) (pz 268 14 17) (pz 268 14 20)) (pz 268 9 20)) (pz 268 4 21)) (.bin .BitAnd (.bin .Add (.idx (lo 0 268 24 28) (.bin .Add (lo 2 268 29 31) (.bif .len (on (lo 1 268 38 39)) (pz 268 34 37) (pz 268 34 40)) (pz 268 29 40)) (pz 268 24 41)) (lo 4 268 44 49) (pz 268 24 49)) (lo 5 268 52 56) (pz 268 24 56)) (pz 268 4 56))
 .nil)))
noncomputable def Kj : List Str := ["rest", "b", "w", "size", "quotient", "at", "limb"]
noncomputable def Kz : Sts :=
 (.cons (.asg (la 3 270 4 8) (.bif .len (on (lo 1 270 15 16)) (pz 270 11 14) (pz 270 11 17)) (pz 270 4 17))
 (.cons (.asg (la 4 271 4 12) (.bin .Mult (.lst (on (nu 0 271 16 17)) (pz 271 15 18)) (.bin .Sub (.bif .len (on (lo 0 271 26 30)) (pz 271 22 25) (pz 271 22 31)) (lo 3 271 34 38) (pz 271 22 38)) (pz 271 15 39)) (pz 271 4 39))
 (.cons (.forr (.one 5 (pz 272 8 10)) (.range3 (.bin .Sub (.bin .Sub (.bif .len (on (lo 0 272 24 28)) (pz 272 20 23) (pz 272 20 29)) (lo 3 272 32 36) (pz 272 20 36)) (nu 1 272 39 40) (pz 272 20 40)) (.neg (nu 1 272 43 44) (pz 272 42 44)) (.neg (nu 1 272 47 48) (pz 272 46 48)) (pz 272 14 19) (pz 272 14 49))
  (.cons (.asg (la 6 273 8 12) (.call (.glo "guessed_limb" (.ref 329) (pz 273 15 27)) (.cons (.slBoth (lo 0 273 28 32) (.bin .Sub (.bin .Add (lo 5 273 33 35) (lo 3 273 38 42) (pz 273 33 42)) (nu 2 273 45 46) (pz 273 33 46)) (.bin .Add (.bin .Add (lo 5 273 47 49) (lo 3 273 52 56) (pz 273 47 56)) (nu 1 273 59 60) (pz 273 47 60)) (pz 273 33 60) (pz 273 28 61)) (.cons (.idx (lo 1 273 63 64) (.bin .Sub (lo 3 273 65 69) (nu 1 273 72 73) (pz 273 65 73)) (pz 273 63 74)) (.cons (.idx (lo 1 273 76 77) (.bin .Sub (lo 3 273 78 82) (nu 2 273 85 86) (pz 273 78 86)) (pz 273 76 87)) (on (lo 2 273 89 90))))) (pz 273 15 91)) (pz 273 8 91))
 (.cons (.cond (.cmp .Eq (.call (.glo "take_away" (.ref 336) (pz 274 11 20)) (.cons (lo 0 274 21 25) (.cons (lo 1 274 27 28) (.cons (lo 6 274 30 34) (.cons (lo 5 274 36 38) (on (lo 2 274 40 41)))))) (pz 274 11 42)) (nu 1 274 46 47) (pz 274 11 47))
  (.cons (.aug 6 (pz 275 12 16) .Sub (nu 1 275 20 21) (pz 275 12 21))
 (.cons (.expr (.call (.glo "put_back" (.ref 343) (pz 276 12 20)) (.cons (lo 0 276 21 25) (.cons (lo 1 276 27 28) (.cons (lo 5 276 30 32) (on (lo 2 276 34 35))))) (pz 276 12 36)) (pz 276 12 36))
 .nil))
  .nil ⟨274, 8, 276, 36⟩)
 (.cons (.asg (.idx (lo 4 277 8 16) (lo 5 277 17 19) (pz 277 8 20)) (lo 6 277 23 27) (pz 277 8 27))
 .nil))) ⟨272, 4, 277, 27⟩)
 (.cons (.ret (lo 4 278 11 19) (pz 278 4 19))
 .nil))))
noncomputable def Ig : List Str := ["a", "b", "w", "shift", "divisor", "rest", "quotient"]
noncomputable def Io : Sts :=
 (.cons (.cond (.cmp .Eq (.bif .len (on (lo 1 280 11 12)) (pz 280 7 10) (pz 280 7 13)) (nu 0 280 17 18) (pz 280 7 18))
  (.cons (.dead (.Raise (some (.Call (.Name "DivisionByZero" (pz 281 14 28)) [.Constant (.str "division by nought") 0 (pz 281 29 49)] [] (pz 281 14 50))) none (pz 281 8 50)))
 .nil)
  .nil ⟨280, 4, 281, 50⟩)
 (.cons (.cond (.cmp .Lt (.call (.glo "compare" (.ref 72) (pz 282 7 14)) (.cons (lo 0 282 15 16) (on (lo 1 282 18 19))) (pz 282 7 20)) (nu 0 282 23 24) (pz 282 7 24))
  (.cons (.ret (.tup (.cons (.lst .nil (pz 283 16 18)) (.cons (.slAll (lo 0 283 20 21) (pz 283 22 23) (pz 283 20 24)) .nil)) (pz 283 15 25)) (pz 283 8 25))
 .nil)
  .nil ⟨282, 4, 283, 25⟩)
 (.cons (.cond (.cmp .Eq (.bif .len (on (lo 1 284 11 12)) (pz 284 7 10) (pz 284 7 13)) (nu 1 284 17 18) (pz 284 7 18))
  (.cons (.ret (.call (.glo "divrem_small" (.ref 322) (pz 285 15 27)) (.cons (lo 0 285 28 29) (.cons (lo 1 285 31 32) (on (lo 2 285 34 35)))) (pz 285 15 36)) (pz 285 8 36))
 .nil)
  .nil ⟨284, 4, 285, 36⟩)
 (.cons (.asg (la 3 286 4 9) (.bin .Sub (lo 2 286 12 13) (.call (.glo "bits" (.ref 121) (pz 286 16 20)) (.cons (.lst (.cons (.idx (lo 1 286 22 23) (.neg (nu 1 286 25 26) (pz 286 24 26)) (pz 286 22 27)) .nil) (pz 286 21 28)) (on (lo 2 286 30 31))) (pz 286 16 32)) (pz 286 12 32)) (pz 286 4 32))
 (.cons (.asg (la 4 287 4 11) (.call (.glo "shift_left" (.ref 107) (pz 287 14 24)) (.cons (lo 1 287 25 26) (.cons (lo 3 287 28 33) (on (lo 2 287 35 36)))) (pz 287 14 37)) (pz 287 4 37))
 (.cons (.asg (la 5 288 4 8) (.call (.glo "shift_left" (.ref 107) (pz 288 11 21)) (.cons (lo 0 288 22 23) (.cons (lo 3 288 25 30) (on (lo 2 288 32 33)))) (pz 288 11 34)) (pz 288 4 34))
 (.cons (.asg (la 5 289 4 8) (.bin .Add (lo 5 289 11 15) (.bin .Mult (.lst (on (nu 0 289 19 20)) (pz 289 18 21)) (.bin .Sub (.bin .Add (.bif .len (on (lo 0 289 29 30)) (pz 289 25 28) (pz 289 25 31)) (nu 1 289 34 35) (pz 289 25 35)) (.bif .len (on (lo 5 289 42 46)) (pz 289 38 41) (pz 289 38 47)) (pz 289 25 47)) (pz 289 18 48)) (pz 289 11 48)) (pz 289 4 48))
 (.cons (.asg (la 6 290 4 12) (.call (.glo "divide_rows" (.ref 350) (pz 290 15 26)) (.cons (lo 5 290 27 31) (.cons (lo 4 290 33 40) (on (lo 2 290 42 43)))) (pz 290 15 44)) (pz 290 4 44))
 (.cons (.ret (.tup (.cons (.call (.glo "normal" (.ref 58) (pz 291 12 18)) (on (lo 6 291 19 27)) (pz 291 12 28)) (.cons (.call (.glo "shift_right" (.ref 114) (pz 291 30 41)) (.cons (.call (.glo "normal" (.ref 58) (pz 291 42 48)) (on (lo 5 291 49 53)) (pz 291 42 54)) (.cons (lo 3 291 56 61) (on (lo 2 291 63 64)))) (pz 291 30 65)) .nil)) (pz 291 11 66)) (pz 291 4 66))
 .nil)))))))))
noncomputable def M4 : List Str := ["heap", "many"]
noncomputable def No : Sts :=
 (.cons (.asg (.idx (lo 0 294 4 8) (nu 0 294 9 10) (pz 294 4 11)) (.bin .Add (.idx (lo 0 294 14 18) (nu 0 294 19 20) (pz 294 14 21)) (nu 1 294 24 25) (pz 294 14 25)) (pz 294 4 25))
 (.cons (.cond (.cmp .LtE (.idx (lo 0 295 7 11) (nu 0 295 12 13) (pz 295 7 14)) (.bif .len (.cons (.idx (lo 0 295 22 26) (nu 1 295 27 28) (pz 295 22 29)) .nil) (pz 295 18 21) (pz 295 18 30)) (pz 295 7 30))
  (.cons (.ret (.bin .Mod (.idx (.idx (lo 0 296 15 19) (nu 1 296 20 21) (pz 296 15 22)) (.bin .Sub (.idx (lo 0 296 23 27) (nu 0 296 28 29) (pz 296 23 30)) (nu 1 296 33 34) (pz 296 23 34)) (pz 296 15 35)) (lo 1 296 38 42) (pz 296 15 42)) (pz 296 8 42))
 .nil)
  .nil ⟨295, 4, 296, 42⟩)
 (.cons (.ret (.bin .Mod (.bin .Add (.bin .Add (.bin .Mult (nu 7 297 12 13) (.idx (lo 0 297 16 20) (nu 0 297 21 22) (pz 297 16 23)) (pz 297 12 23)) (.bin .FloorDiv (.idx (lo 0 297 26 30) (nu 0 297 31 32) (pz 297 26 33)) (nu 3 297 37 38) (pz 297 26 38)) (pz 297 12 38)) (nu 2 297 41 42) (pz 297 12 42)) (lo 1 297 46 50) (pz 297 11 50)) (pz 297 4 50))
 .nil)))
noncomputable def Lj : List Str := ["number", "found", "size"]
noncomputable def Lv : Sts :=
 (.cons (.asgs [(la 1 299 4 9), (la 2 299 11 15)] (.cons (.lst .nil (pz 299 19 21)) (.cons (.bif .abs (on (lo 0 299 27 33)) (pz 299 23 26) (pz 299 23 34)) .nil)) (pz 299 4 15) (pz 299 18 35) (pz 299 4 35))
 (.cons (.whil (.cmp .Gt (lo 2 300 10 14) (nu 0 300 17 18) (pz 300 10 18))
  (.cons (.expr (.app (lo 1 301 8 13) (.bin .Mod (lo 2 301 21 25) (nu 256 301 28 31) (pz 301 21 31)) (pz 301 8 20) (pz 301 8 32)) (pz 301 8 32))
 (.cons (.asg (la 2 302 8 12) (.bin .FloorDiv (lo 2 302 15 19) (nu 256 302 23 26) (pz 302 15 26)) (pz 302 8 26))
 .nil)) ⟨300, 4, 302, 26⟩)
 (.cons (.ret (.tup (.cons (.cmp .Lt (lo 0 303 12 18) (nu 0 303 21 22) (pz 303 12 22)) (on (lo 1 303 24 29))) (pz 303 11 30)) (pz 303 4 30))
 .nil)))
noncomputable def M5 : List Str := ["x", "size"]
noncomputable def Np : Sts :=
 (.cons (.asg (la 1 305 4 8) (.bif .sum (.cons (.comp (.bin .Mult (lo 1 305 16 20) (.bin .Pow (nu 256 305 23 26) (lo 0 305 30 32) (pz 305 23 32)) (pz 305 16 32)) (.two 0 (pz 305 37 39) 1 (pz 305 41 45) (pz 305 37 45)) (.enum (.idx (lo 0 305 59 60) (nu 1 305 61 62) (pz 305 59 63)) (pz 305 49 58) (pz 305 49 64)) ⟨.function, [(".0", .local), ("at", .local), ("limb", .local)], false, false, []⟩ ["at", "limb"] [none, none] (pz 305 15 65)) .nil) (pz 305 11 14) (pz 305 11 66)) (pz 305 4 66))
 (.cons (.ret (.ite (.val (.idx (lo 0 306 23 24) (nu 0 306 25 26) (pz 306 23 27))) (.bin .Sub (nu 0 306 11 12) (lo 1 306 15 19) (pz 306 11 19)) (lo 1 306 33 37) (pz 306 11 37)) (pz 306 4 37))
 .nil))
noncomputable def My : List Str := ["rows", "found", "at", "number", "rest"]
noncomputable def Nm : Sts :=
 (.cons (.cond (.cmp .Eq (.bif .len (on (lo 0 308 11 15)) (pz 308 7 10) (pz 308 7 16)) (nu 1 308 20 21) (pz 308 7 21))
  (.cons (.ret (.idx (.idx (lo 0 309 15 19) (nu 0 309 20 21) (pz 309 15 22)) (nu 0 309 23 24) (pz 309 15 25)) (pz 309 8 25))
 .nil)
  .nil ⟨308, 4, 309, 25⟩)
 (.cons (.asg (la 1 310 4 9) (nu 0 310 12 13) (pz 310 4 13))
 (.cons (.forr (.two 2 (pz 311 8 10) 3 (pz 311 12 18) (pz 311 8 18)) (.enum (.idx (lo 0 311 32 36) (nu 0 311 37 38) (pz 311 32 39)) (pz 311 22 31) (pz 311 22 40))
  (.cons (.asg (la 4 312 8 12) (.comp (.bin .Add (.slTo (lo 0 312 16 19) (lo 1 312 21 23) (pz 312 20 23) (pz 312 16 24)) (.slFrom (lo 0 312 27 30) (.bin .Add (lo 1 312 31 33) (nu 1 312 36 37) (pz 312 31 37)) (pz 312 31 38) (pz 312 27 39)) (pz 312 16 39)) (.one 0 (pz 312 44 47)) (.lst (.slFrom (lo 0 312 51 55) (nu 1 312 56 57) (pz 312 56 58) (pz 312 51 59))) ⟨.function, [(".0", .local), ("row", .local), ("at", .free)], false, false, []⟩ ["row", "at"] [none, some 2] (pz 312 15 60)) (pz 312 8 60))
 (.cons (.asg (la 1 313 8 13) (.bin .Add (lo 1 313 16 21) (.bin .Mult (.ite (.cmp .Eq (.bin .Mod (lo 2 313 35 37) (nu 2 313 40 41) (pz 313 35 41)) (nu 0 313 45 46) (pz 313 35 46)) (lo 3 313 25 31) (.bin .Sub (nu 0 313 52 53) (lo 3 313 56 62) (pz 313 52 62)) (pz 313 25 62)) (.call (.glo "_law_worth" (.ref 381) (pz 313 66 76)) (on (lo 4 313 77 81)) (pz 313 66 82)) (pz 313 24 82)) (pz 313 16 82)) (pz 313 8 82))
 .nil)) ⟨311, 4, 313, 82⟩)
 (.cons (.ret (lo 1 314 11 16) (pz 314 4 16))
 .nil))))
noncomputable def Kh : List Str := ["old", "new", "worth", "row"]
noncomputable def Kx : Sts :=
 (.cons (.cond (.cmp .NotEq (.bif .abs (.cons (.call (.glo "_law_worth" (.ref 381) (pz 316 11 21)) (on (lo 1 316 22 25)) (pz 316 11 26)) .nil) (pz 316 7 10) (pz 316 7 27)) (.bif .abs (on (lo 2 316 35 40)) (pz 316 31 34) (pz 316 31 41)) (pz 316 7 41))
  (.cons (.ret (.boo false (pz 317 15 20)) (pz 317 8 20))
 .nil)
  .nil ⟨316, 4, 317, 20⟩)
 (.cons (.forr (.one 3 (pz 318 8 11)) (.lst (lo 0 318 15 18))
  (.cons (.cond (.cmp .NotEq (.compIf (lo 0 319 12 14) (.one 0 (pz 319 19 21)) (.range1 (.bif .len (on (lo 1 319 35 38)) (pz 319 31 34) (pz 319 31 39)) (pz 319 25 30) (pz 319 25 40)) (.cmp .NotEq (.bin .Mod (.call (.glo "_law_worth" (.ref 381) (pz 319 44 54)) (.cons (.bin .Add (.bin .Add (.slTo (lo 1 319 55 58) (lo 0 319 60 62) (pz 319 59 62) (pz 319 55 63)) (.lst (on (lo 2 319 67 70)) (pz 319 66 71)) (pz 319 55 71)) (.slFrom (lo 1 319 74 77) (.bin .Add (lo 0 319 78 80) (nu 1 319 83 84) (pz 319 78 84)) (pz 319 78 85) (pz 319 74 86)) (pz 319 55 86)) .nil) (pz 319 44 87)) (lo 3 319 90 95) (pz 319 44 95)) (nu 0 319 99 100) (pz 319 44 100)) ⟨.function, [(".0", .local), ("at", .local), ("_law_worth", .globalImplicit), ("new", .free), ("row", .free), ("worth", .free)], false, false, []⟩ ["at", "new", "row", "worth"] [none, some 1, some 3, some 2] (pz 319 11 101)) (.lst .nil (pz 319 105 107)) (pz 319 11 107))
  (.cons (.ret (.boo false (pz 320 19 24)) (pz 320 12 24))
 .nil)
  .nil ⟨319, 8, 320, 24⟩)
 .nil) ⟨318, 4, 320, 24⟩)
 (.cons (.ret (.boo true (pz 321 11 15)) (pz 321 4 15))
 .nil)))
noncomputable def Mz : List Str := ["lattice"]
noncomputable def Nn : Sts :=
 (.cons (.ret (.comp (.call (.glo "_law_plain" (.ref 376) (pz 323 12 22)) (on (lo 0 323 23 26)) (pz 323 12 27)) (.one 0 (pz 323 32 35)) (.lst (.attr (lo 0 323 39 46) 6 (pz 323 39 52))) ⟨.function, [(".0", .local), ("one", .local), ("_law_plain", .globalImplicit)], false, false, []⟩ ["one"] [none] (pz 323 11 53)) (pz 323 4 53))
 .nil)
noncomputable def Kg : List Str := ["some", "found", "one"]
noncomputable def Kw : Sts :=
 (.cons (.asg (la 1 325 4 9) (nu 1 325 12 13) (pz 325 4 13))
 (.cons (.forr (.one 2 (pz 326 8 11)) (.lst (.slTo (lo 0 326 15 19) (.neg (nu 1 326 22 23) (pz 326 21 23)) (pz 326 20 23) (pz 326 15 24)))
  (.cons (.asg (la 1 327 8 13) (.bin .Mult (lo 1 327 16 21) (lo 2 327 24 27) (pz 327 16 27)) (pz 327 8 27))
 .nil) ⟨326, 4, 327, 27⟩)
 (.cons (.ret (lo 1 328 11 16) (pz 328 4 16))
 .nil)))
noncomputable def Bu : List Str := ["script", "heap", "many", "top", "bottom", "turn", "rows", "given", "worth", "count", "lattice", "k", "first", "before", "j", "due", "now", "ahead", "found", "end", "part"]
noncomputable def Hv : Sts :=
 (.cons (.asg (la 1 330 4 8) (.lst (.cons (nu 0 330 12 13) (.cons (.comp (.bif .abs (.cons (.bif .int (on (lo 0 330 24 29)) (pz 330 20 23) (pz 330 20 30)) .nil) (pz 330 16 19) (pz 330 16 31)) (.one 0 (pz 330 36 41)) (.lst (.slTo (lo 0 330 45 51) (nu 24 330 53 55) (pz 330 52 55) (pz 330 45 56))) ⟨.function, [(".0", .local), ("straw", .local), ("abs", .globalImplicit), ("int", .globalImplicit)], false, false, []⟩ ["straw"] [none] (pz 330 15 57)) .nil)) (pz 330 11 58)) (pz 330 4 58))
 (.cons (.asgs [(la 2 331 4 8), (.two 3 (pz 331 11 14) 4 (pz 331 16 22) (pz 331 10 23))] (.cons (.bin .Add (nu 2 331 27 28) (.call (.glo "_law_raked" (.ref 364) (pz 331 31 41)) (.cons (lo 1 331 42 46) (on (nu 2 331 48 49))) (pz 331 31 50)) (pz 331 27 50)) (.cons (.idx (.lst (.cons (.tup (.cons (nu 3 331 54 55) (on (nu 4 331 57 58))) (pz 331 53 59)) (.cons (.tup (.cons (nu 1 331 62 63) (on (nu 1 331 65 66))) (pz 331 61 67)) (.cons (.tup (.cons (nu 1 331 70 71) (on (nu 2 331 73 74))) (pz 331 69 75)) (.cons (.tup (.cons (nu 9 331 78 79) (on (nu 10 331 81 83))) (pz 331 77 84)) .nil)))) (pz 331 52 85)) (.call (.glo "_law_raked" (.ref 364) (pz 331 86 96)) (.cons (lo 1 331 97 101) (on (nu 4 331 103 104))) (pz 331 86 105)) (pz 331 52 106)) .nil)) (pz 331 4 23) (pz 331 26 107) (pz 331 4 107))
 (.cons (.asg (la 6 332 4 8) (.comp (.comp (.bin .Sub (.call (.glo "_law_raked" (.ref 364) (pz 332 13 23)) (.cons (lo 1 332 24 28) (on (nu 9 332 30 31))) (pz 332 13 32)) (nu 3 332 35 36) (pz 332 13 36)) (.one 0 (pz 332 41 45)) (.range1 (lo 2 332 55 59) (pz 332 49 54) (pz 332 49 60)) ⟨.function, [(".0", .local), ("spot", .local), ("_law_raked", .globalImplicit), ("heap", .free)], false, false, []⟩ ["spot", "heap"] [none, some 1] (pz 332 12 61)) (.one 0 (pz 332 66 70)) (.range1 (lo 2 332 80 84) (pz 332 74 79) (pz 332 74 85)) ⟨.function, [(".0", .local), ("turn", .local), ("range", .globalImplicit), ("heap", .free), ("many", .free)], false, false, []⟩ ["turn", "heap", "many"] [none, some 1, some 2] (pz 332 11 86)) (pz 332 4 86))
 (.cons (.asgs [(la 7 333 4 9), (la 8 333 11 16), (la 9 333 18 23)] (.cons (.comp (.comp (.call (.glo "_law_signed" (.ref 371) (pz 333 29 40)) (on (lo 0 333 41 47)) (pz 333 29 48)) (.one 0 (pz 333 53 59)) (.lst (lo 0 333 63 66)) ⟨.function, [(".0", .local), ("number", .local), ("_law_signed", .globalImplicit)], false, false, []⟩ ["number"] [none] (pz 333 28 67)) (.one 0 (pz 333 72 75)) (.lst (lo 6 333 79 83)) ⟨.function, [(".0", .local), ("row", .local)], false, false, []⟩ ["row"] [none] (pz 333 27 84)) (.cons (.call (.glo "_law_worth" (.ref 381) (pz 333 86 96)) (on (lo 6 333 97 101)) (pz 333 86 102)) (on (nu 0 333 104 105)))) (pz 333 4 23) (pz 333 26 106) (pz 333 4 106))
 (.cons (.asg (la 10 334 4 11) (.call (.glo "Lattice" (.ref 304) (pz 334 14 21)) (.cons (lo 7 334 22 27) (.cons (lo 3 334 29 32) (.cons (lo 4 334 34 40) (.cons (nu 8 334 42 43) (.cons (.glo "mul_school" (.ref 315) (pz 334 45 55)) (.cons (.glo "divrem_school" (.ref 357) (pz 334 57 70)) .nil)))))) (pz 334 14 71)) (pz 334 4 71))
 .nil)))))
noncomputable def Cw : Sts :=
 (.cons (.forr (.one 11 (pz 336 12 13)) (.range1 (lo 2 336 23 27) (pz 336 17 22) (pz 336 17 28))
  (.cons (.expr (.meth (lo 10 337 12 19) "take_in" 273 (on (lo 11 337 28 29)) (pz 337 12 27) (pz 337 12 30)) (pz 337 12 30))
 .nil) ⟨336, 8, 337, 30⟩)
 .nil)
noncomputable def Eb : Sts :=
 (.cons (.asg (la 12 340 4 9) (.call (.glo "_law_sizes" (.ref 391) (pz 340 12 22)) (on (lo 10 340 23 30)) (pz 340 12 31)) (pz 340 4 31))
 (.cons (.cond (.disj (.cmp .Eq (lo 8 341 7 12) (nu 0 341 16 17) (pz 341 7 17)) (.cmp .NotEq (.idx (lo 12 341 21 26) (.neg (nu 1 341 28 29) (pz 341 27 29)) (pz 341 21 30)) (.bin .Pow (lo 8 341 34 39) (nu 2 341 43 44) (pz 341 34 44)) (pz 341 21 44)) (pz 341 7 44))
  (.cons (.ret (.boo false (pz 342 15 20)) (pz 342 8 20))
 .nil)
  .nil ⟨341, 4, 342, 20⟩)
 (.cons (.forr (.one 5 (pz 343 8 12)) (.range1 (.call (.glo "_law_raked" (.ref 364) (pz 343 22 32)) (.cons (lo 1 343 33 37) (on (nu 13 343 39 41))) (pz 343 22 42)) (pz 343 16 21) (pz 343 16 43))
  (.cons (.asgs [(la 11 344 8 9), (la 13 344 11 17)] (.cons (.bin .Add (nu 1 344 21 22) (.call (.glo "_law_raked" (.ref 364) (pz 344 25 35)) (.cons (lo 1 344 36 40) (.cons (.bin .Sub (lo 2 344 42 46) (nu 1 344 49 50) (pz 344 42 50)) .nil)) (pz 344 25 51)) (pz 344 21 51)) (.cons (.call (.glo "_law_sizes" (.ref 391) (pz 344 53 63)) (on (lo 10 344 64 71)) (pz 344 53 72)) .nil)) (pz 344 8 17) (pz 344 20 73) (pz 344 8 73))
 (.cons (.asg (la 14 345 8 9) (.call (.glo "_law_raked" (.ref 364) (pz 345 12 22)) (.cons (lo 1 345 23 27) (on (lo 11 345 29 30))) (pz 345 12 31)) (pz 345 8 31))
 (.cons (.cond (.val (.meth (lo 10 346 11 18) "is_upright" 287 (on (lo 11 346 30 31)) (pz 346 11 29) (pz 346 11 32)))
  (.cons (.expr (.meth (lo 10 347 12 19) "shorten" 280 (.cons (lo 11 347 28 29) (on (lo 14 347 31 32))) (pz 347 12 27) (pz 347 12 33)) (pz 347 12 33))
 (.cons (.asg (la 15 348 12 15) (lo 13 348 18 24) (pz 348 12 24))
 .nil))
  (.cons (.expr (.meth (lo 10 350 12 19) "exchange" 294 (on (lo 11 350 29 30)) (pz 350 12 28) (pz 350 12 31)) (pz 350 12 31))
 (.cons (.asgs [(la 15 351 12 15), (la 9 351 17 22)] (.cons (.bin .Add (.bin .Add (.slTo (lo 13 351 26 32) (lo 11 351 34 35) (pz 351 33 35) (pz 351 26 36)) (.lst (.cons (.call (.glo "_law_plain" (.ref 376) (pz 351 40 50)) (.cons (.idx (.attr (lo 10 351 51 58) 6 (pz 351 51 64)) (lo 11 351 65 66) (pz 351 51 67)) .nil) (pz 351 40 68)) .nil) (pz 351 39 69)) (pz 351 26 69)) (.slFrom (lo 13 351 72 78) (.bin .Add (lo 11 351 79 80) (nu 1 351 83 84) (pz 351 79 84)) (pz 351 79 85) (pz 351 72 86)) (pz 351 26 86)) (.cons (.bin .Add (lo 9 351 88 93) (nu 1 351 96 97) (pz 351 88 97)) .nil)) (pz 351 12 22) (pz 351 25 98) (pz 351 12 98))
 (.cons (.cond (.cmp .GtE (.bin .Mult (lo 4 352 15 21) (.idx (lo 15 352 24 27) (lo 11 352 28 29) (pz 352 24 30)) (pz 352 15 30)) (.bin .Mult (lo 3 352 34 37) (.idx (lo 13 352 40 46) (lo 11 352 47 48) (pz 352 40 49)) (pz 352 34 49)) (pz 352 15 49))
  (.cons (.ret (.boo false (pz 353 23 28)) (pz 353 16 28))
 .nil)
  .nil ⟨352, 12, 353, 28⟩)
 .nil))) ⟨346, 8, 353, 28⟩)
 (.cons (.asg (la 16 354 8 11) (.call (.glo "_law_sizes" (.ref 391) (pz 354 14 24)) (on (lo 10 354 25 32)) (pz 354 14 33)) (pz 354 8 33))
 (.cons (.cond (.disj (.cmp .NotEq (lo 16 355 11 14) (lo 15 355 18 21) (pz 355 11 21)) (.cmp .NotEq (.compIf (lo 0 355 26 29) (.one 0 (pz 355 34 37)) (.lst (lo 16 355 41 44)) (.cmp .Lt (lo 0 355 48 51) (nu 1 355 54 55) (pz 355 48 55)) ⟨.function, [(".0", .local), ("one", .local)], false, false, []⟩ ["one"] [none] (pz 355 25 56)) (.lst .nil (pz 355 60 62)) (pz 355 25 62)) (pz 355 11 62))
  (.cons (.ret (.boo false (pz 356 19 24)) (pz 356 12 24))
 .nil)
  .nil ⟨355, 8, 356, 24⟩)
 (.cons (.cond (.cmp .Gt (.bin .Mult (.bin .Pow (lo 4 357 11 17) (lo 9 357 21 26) (pz 357 11 26)) (.call (.glo "_law_product" (.ref 398) (pz 357 29 41)) (on (lo 16 357 42 45)) (pz 357 29 46)) (pz 357 11 46)) (.bin .Mult (.bin .Pow (lo 3 357 49 52) (lo 9 357 56 61) (pz 357 49 61)) (.call (.glo "_law_product" (.ref 398) (pz 357 64 76)) (on (lo 12 357 77 82)) (pz 357 64 83)) (pz 357 49 83)) (pz 357 11 83))
  (.cons (.ret (.boo false (pz 358 19 24)) (pz 358 12 24))
 .nil)
  .nil ⟨357, 8, 358, 24⟩)
 (.cons (.cond (.not (.val (.call (.glo "_law_is_same" (.ref 386) (pz 359 15 27)) (.cons (lo 6 359 28 32) (.cons (.comp (.comp (.call (.glo "_law_plain" (.ref 376) (pz 359 36 46)) (on (lo 0 359 47 50)) (pz 359 36 51)) (.one 0 (pz 359 56 59)) (.lst (lo 0 359 63 66)) ⟨.function, [(".0", .local), ("one", .local), ("_law_plain", .globalImplicit)], false, false, []⟩ ["one"] [none] (pz 359 35 67)) (.one 0 (pz 359 72 75)) (.lst (.attr (lo 10 359 79 86) 0 (pz 359 79 91))) ⟨.function, [(".0", .local), ("row", .local)], false, false, []⟩ ["row"] [none] (pz 359 34 92)) (on (lo 8 359 94 99)))) (pz 359 15 100))) (pz 359 11 100))
  (.cons (.ret (.boo false (pz 360 19 24)) (pz 360 12 24))
 .nil)
  .nil ⟨359, 8, 360, 24⟩)
 .nil))))))) ⟨343, 4, 360, 24⟩)
 (.cons (.asg (la 17 361 4 9) (.call (.glo "_law_sizes" (.ref 391) (pz 361 12 22)) (on (lo 10 361 23 30)) (pz 361 12 31)) (pz 361 4 31))
 (.cons (.expr (.meth (lo 10 362 4 11) "run" 301 .nil (pz 362 4 15) (pz 362 4 17)) (pz 362 4 17))
 (.cons (.asgs [(la 18 363 4 9), (la 19 363 11 14)] (.cons (.comp (.comp (.call (.glo "_law_plain" (.ref 376) (pz 363 20 30)) (on (lo 0 363 31 34)) (pz 363 20 35)) (.one 0 (pz 363 40 43)) (.lst (lo 0 363 47 50)) ⟨.function, [(".0", .local), ("one", .local), ("_law_plain", .globalImplicit)], false, false, []⟩ ["one"] [none] (pz 363 19 51)) (.one 0 (pz 363 56 59)) (.lst (.attr (lo 10 363 63 70) 0 (pz 363 63 75))) ⟨.function, [(".0", .local), ("row", .local)], false, false, []⟩ ["row"] [none] (pz 363 18 76)) (.cons (.call (.glo "_law_sizes" (.ref 391) (pz 363 78 88)) (on (lo 10 363 89 96)) (pz 363 78 97)) .nil)) (pz 363 4 14) (pz 363 17 98) (pz 363 4 98))
 (.cons (.cond (.disj (.cmp .Gt (.call (.glo "_law_product" (.ref 398) (pz 364 7 19)) (on (lo 19 364 20 23)) (pz 364 7 24)) (.call (.glo "_law_product" (.ref 398) (pz 364 27 39)) (on (lo 17 364 40 45)) (pz 364 27 46)) (pz 364 7 46)) (.not (.val (.call (.glo "_law_is_same" (.ref 386) (pz 364 54 66)) (.cons (lo 6 364 67 71) (.cons (lo 18 364 73 78) (on (lo 8 364 80 85)))) (pz 364 54 86))) (pz 364 50 86)) (pz 364 7 86))
  (.cons (.ret (.boo false (pz 365 15 20)) (pz 365 8 20))
 .nil)
  .nil ⟨364, 4, 365, 20⟩)
 (.cons (.forr (.one 11 (pz 366 8 9)) (.range2 (nu 1 366 19 20) (lo 2 366 22 26) (pz 366 13 18) (pz 366 13 27))
  (.cons (.asg (la 20 367 8 12) (.call (.glo "_law_plain" (.ref 376) (pz 367 15 25)) (.cons (.idx (.idx (.attr (lo 10 367 26 33) 7 (pz 367 26 39)) (lo 11 367 40 41) (pz 367 26 42)) (.bin .Sub (lo 11 367 43 44) (nu 1 367 47 48) (pz 367 43 48)) (pz 367 26 49)) .nil) (pz 367 15 50)) (pz 367 8 50))
 (.cons (.cond (.disj (.cmp .Lt (.bin .Mult (lo 4 368 11 17) (.bin .Add (.bin .Mult (.idx (lo 19 368 21 24) (.bin .Add (lo 11 368 25 26) (nu 1 368 29 30) (pz 368 25 30)) (pz 368 21 31)) (.idx (lo 19 368 34 37) (.bin .Sub (lo 11 368 38 39) (nu 1 368 42 43) (pz 368 38 43)) (pz 368 34 44)) (pz 368 21 44)) (.bin .Mult (lo 20 368 47 51) (lo 20 368 54 58) (pz 368 47 58)) (pz 368 21 58)) (pz 368 11 59)) (.bin .Mult (.bin .Mult (lo 3 368 62 65) (.idx (lo 19 368 68 71) (lo 11 368 72 73) (pz 368 68 74)) (pz 368 62 74)) (.idx (lo 19 368 77 80) (lo 11 368 81 82) (pz 368 77 83)) (pz 368 62 83)) (pz 368 11 83)) (.cmp .Gt (.bin .Mult (nu 2 368 87 88) (.bif .abs (on (lo 20 368 95 99)) (pz 368 91 94) (pz 368 91 100)) (pz 368 87 100)) (.idx (lo 19 368 103 106) (lo 11 368 107 108) (pz 368 103 109)) (pz 368 87 109)) (pz 368 11 109))
  (.cons (.ret (.boo false (pz 369 19 24)) (pz 369 12 24))
 .nil)
  .nil ⟨368, 8, 369, 24⟩)
 .nil)) ⟨366, 4, 369, 24⟩)
 (.cons (.ret (.cmp .Eq (lo 7 370 11 16) (.comp (.comp (.call (.glo "_law_signed" (.ref 371) (pz 370 22 33)) (on (lo 0 370 34 40)) (pz 370 22 41)) (.one 0 (pz 370 46 52)) (.lst (lo 0 370 56 59)) ⟨.function, [(".0", .local), ("number", .local), ("_law_signed", .globalImplicit)], false, false, []⟩ ["number"] [none] (pz 370 21 60)) (.one 0 (pz 370 65 68)) (.lst (lo 6 370 72 76)) ⟨.function, [(".0", .local), ("row", .local)], false, false, []⟩ ["row"] [none] (pz 370 20 77)) (pz 370 11 77)) (pz 370 4 77))
 .nil)))))))))
end Mine
end
noncomputable section
namespace Mine
open PySem PySem.W PyProof.Rows PySem.Calls
section
noncomputable def LAT : Addr := 304
noncomputable def Cr (es : List DictEntry) (vs : List V) : Prop :=
 es.length = vs.length ∧ ∀ (i : Nat) e, es[i]? = some e → (∃ t, e.key = .str (Ac Ad i) t) ∧ vs[i]? = some (Af e.val)
noncomputable def Mt (h : Heap) (a : Addr) : Ed → Prop
 | .list vs => ∃ xs, h.PlainList a xs ∧ xs.toList.map Af = vs ∧ vs.length ≤ LIM
 | .tup vs => ∃ xs n, h.get? a = some { cls := .type "tuple", data := .seq xs n } ∧ xs.toList.map Af = vs ∧ vs.length ≤ LIM
 | .inst dx => h.get? a = some (instObj LAT dx)
 | .dict vs => ∃ es n, h.get? a = some (dictOf es n) ∧ Cr es vs ∧ vs.length ≤ 8
theorem Mt.there {h : Heap} {a : Addr} {o : Ed} (m : Mt h a o) : ∃ ob, h.get? a = some ob := by
 cases o with
 | list => (refine zEA m fun _ zq0 _ => ?_; refine zE zq0 fun n e => ?_); exact ⟨_, e⟩
 | tup => refine Ei m fun _ n e _ => ?_; exact ⟨_, e⟩
 | inst => exact ⟨_, m⟩
 | dict => refine Ei m fun es n e _ => ?_; exact ⟨_, e⟩
theorem Mt.at' {h h' : Heap} {a : Addr} {o : Ed} (m : Mt h a o) (k : ∀ ob, h.get? a = some ob → h'.get? a = some ob) : Mt h' a o := by
 cases o with
 | list => (refine zEA m fun xs zq0 q => ?_; refine zE zq0 fun n e => ?_); exact iEA xs ⟨n, k _ e⟩ q
 | tup => refine Ei m fun xs n e q => ?_; exact C5 xs n (k _ e) q
 | inst => exact k _ m
 | dict => refine Ei m fun es n e q => ?_; exact C5 es n (k _ e) q
structure Ok (h0 : Heap) (σ : Aa) (s : Shared) : Prop where
 base : ∀ b o, h0.get? b = some o → s.heap.get? b = some o
 sat : ∀ a o, σ a = some o → Mt s.heap a o
noncomputable def Bs (h0 : Heap) : Addr → Prop := fun a => h0.get? a = none
structure Ah (h0 : Heap) (own : Addr → Prop) (σ : Aa) (s : Shared) (σ' : Aa) (s' : Shared) : Prop where
 sat : ∀ a o, σ' a = some o → Mt s'.heap a o
 keep : ∀ a o, s.heap.get? a = some o → (σ a = none ∨ h0.get? a ≠ none) → ¬ own a → s'.heap.get? a = some o
 live : ∀ a o, s.heap.get? a = some o → ∃ o', s'.heap.get? a = some o'
 dom : ∀ a, σ' a ≠ none → σ a ≠ none ∨ s.heap.get? a = none
 os : s'.os = s.os
 gens : s'.gens = s.gens
noncomputable def Aj : Addr → Prop := fun _ => False
variable {h0 : Heap}
theorem Ok.fresh {σ : Aa} {s : Shared} (k : Ok h0 σ s) {a : Addr} (h : s.heap.get? a = none) : σ a = none := by
 cases e : σ a with
 | none => rfl
 | some o => refine zE ((k.sat a o e).there) fun ob q => ?_; rw [h] at q; cases q
theorem Ok.bs {σ : Aa} {s : Shared} (k : Ok h0 σ s) {a : Addr} (h : s.heap.get? a = none) : Bs h0 a := by
 cases e : h0.get? a with
 | none => exact e
 | some o => have := k.base a o e; rw [h] at this; cases this
theorem get?_size (h : Heap) : h.get? h.objs.size = none := by
 cases e : h.get? h.objs.size with
 | none => rfl
 | some o => exact absurd (Heap.lt_size e) (Nat.lt_irrefl _)
theorem Ok.post {own : Addr → Prop} {σ σ' : Aa} {s s' : Shared} (k : Ok h0 σ s) (p : Ah h0 own σ s σ' s') (ho : ∀ a, own a → Bs h0 a) : Ok h0 σ' s' where
 base := fun b o e => p.keep b o (k.base b o e) (.inr (by rw [e]; simp)) fun q => by have := ho b q; rw [Bs, e] at this; cases this
 sat := p.sat
theorem Ah.refl {own : Addr → Prop} {σ : Aa} {s : Shared} (k : Ok h0 σ s) : Ah h0 own σ s σ s := ⟨k.sat, fun _ _ e _ _ => e, fun _ o e => ⟨o, e⟩, fun _ h => .inl h, rfl, rfl⟩
theorem Ah.toks {own : Addr → Prop} {σ : Aa} {s : Shared} {n : Nat} (k : Ok h0 σ s) : Ah h0 own σ s σ { s with toks := n } := ⟨k.sat, fun _ _ e _ _ => e, fun _ o e => ⟨o, e⟩, fun _ h => .inl h, rfl, rfl⟩
theorem Ah.trans {own : Addr → Prop} {σ σ₁ σ₂ : Aa} {s s₁ s₂ : Shared} (p : Ah h0 own σ s σ₁ s₁) (q : Ah h0 own σ₁ s₁ σ₂ s₂) : Ah h0 own σ s σ₂ s₂ where
 sat := q.sat
 keep := fun a o e h ho => q.keep a o (p.keep a o e h ho) (by
  rcases h with h | h
  ·left
   cases e1 : σ₁ a with
   | none => rfl
   | some x =>
    rcases p.dom a (by rw [e1]; simp) with z | z
    ·exact absurd h z
    ·rw [e] at z; cases z
  ·exact .inr h) ho
 live := fun a o e => by refine zE (p.live a o e) fun o' e' => ?_; exact q.live a o' e'
 dom := fun a h => by
  rcases q.dom a h with z | z
  ·exact p.dom a z
  ·right
   cases e : s.heap.get? a with
   | none => rfl
   | some o => refine zE (p.live a o e) fun o' e' => ?_; rw [z] at e'; cases e'
 os := q.os.trans p.os
 gens := q.gens.trans p.gens
theorem Ah.widen {own own' : Addr → Prop} {σ σ₁ : Aa} {s s₁ : Shared} (p : Ah h0 own σ s σ₁ s₁) (w : ∀ a, own a → own' a) : Ah h0 own' σ s σ₁ s₁ :=
 ⟨p.sat, fun a o e h ho => p.keep a o e h fun q => ho (w a q), p.live, p.dom, p.os, p.gens⟩
theorem Ah.wide {own : Addr → Prop} {σ σ₁ : Aa} {s s₁ : Shared} (p : Ah h0 Aj σ s σ₁ s₁) : Ah h0 own σ s σ₁ s₁ := p.widen fun _ h => h.elim
theorem Ah.toksR {own : Addr → Prop} {σ σ₁ : Aa} {s s₁ : Shared} {n : Nat} (p : Ah h0 own σ s σ₁ s₁) : Ah h0 own σ s σ₁ { s₁ with toks := n } := ⟨p.sat, p.keep, p.live, p.dom, p.os, p.gens⟩
noncomputable def Aa.put (σ : Aa) (a : Addr) (o : Ed) : Aa := fun b => if b = a then some o else σ b
theorem Aa.put_self (σ : Aa) (a : Addr) (o : Ed) : σ.put a o a = some o := if_pos rfl
theorem Aa.put_ne (σ : Aa) {a b : Addr} (o : Ed) (h : b ≠ a) : σ.put a o b = σ b := if_neg h
theorem Gm {σ : Aa} {a : Addr} {o : Ed} (h : σ a = none) : Ext σ (σ.put a o) := fun b x e => by
 by_cases q : b = a
 ·subst q; rw [h] at e; cases e
 ·rw [Aa.put_ne σ o q]; exact e
theorem G9 {σ : Aa} {a : Addr} {o : Ed} : Ag a σ (σ.put a o) := fun b x n e => by rw [Aa.put_ne σ o n]; exact e
theorem Ah.made {own : Addr → Prop} {σ : Aa} {s : Shared} (k : Ok h0 σ s) {h' : Heap} {tk : Nat} {r : Addr} {o : Ed} (hk : ∀ b ob, s.heap.get? b = some ob → h'.get? b = some ob) (hr : s.heap.get? r = none) (m : Mt h' r o) :
  Ah h0 own σ s (σ.put r o) { s with heap := h', toks := tk } where
 sat := fun a x e => by
  by_cases q : a = r
  ·subst q; rw [Aa.put_self] at e; cases e; exact m
  ·rw [Aa.put_ne _ _ q] at e
   exact (k.sat a x e).at' fun _ => hk _ _
 keep := fun a o e _ _ => hk _ _ e
 live := fun a o e => ⟨o, hk _ _ e⟩
 dom := fun a h => by
  by_cases q : a = r
  ·subst q; exact .inr hr
  ·rw [Aa.put_ne _ _ q] at h; exact .inl h
 os := rfl
 gens := rfl
theorem Ah.alloc {own : Addr → Prop} {σ : Aa} {s : Shared} (k : Ok h0 σ s) {ob : Obj} {o : Ed} (m : Mt (s.heap.push ob) s.heap.objs.size o) :
  Ah h0 own σ s (σ.put s.heap.objs.size o) { s with heap := s.heap.push ob } := .made k (fun _ _ e => Heap.get?_push_of_some _ e) (get?_size _) m
theorem Ah.junk {own : Addr → Prop} {σ : Aa} {s : Shared} (k : Ok h0 σ s) {h' : Heap} {tk : Nat} (hk : ∀ b ob, s.heap.get? b = some ob → h'.get? b = some ob) : Ah h0 own σ s σ { s with heap := h', toks := tk } where
 sat := fun a x e => (k.sat a x e).at' fun _ => hk _ _
 keep := fun a o e _ _ => hk _ _ e
 live := fun a o e => ⟨o, hk _ _ e⟩
 dom := fun a h => .inl h
 os := rfl
 gens := rfl
theorem SameBut.live {x : Addr} {h h' : Heap} (hs : Heap.SameBut x h h') (hx : ∃ o', h'.get? x = some o') (a : Addr) (o : Obj) (e : h.get? a = some o) : ∃ o', h'.get? a = some o' := by
 by_cases z : a = x
 ·subst z; exact hx
 ·exact ⟨o, (hs.2 a z).trans e⟩
theorem Ah.upd {own : Addr → Prop} {σ : Aa} {s : Shared} (k : Ok h0 σ s) {x : Addr} {o o' : Ed} {h' : Heap} {tk : Nat} (e : σ x = some o) (hx : Bs h0 x) (hs : Heap.SameBut x s.heap h') (m : Mt h' x o') :
  Ah h0 own σ s (σ.put x o') { s with heap := h', toks := tk } where
 sat := fun a y q => by
  by_cases z : a = x
  ·subst z; rw [Aa.put_self] at q; cases q; exact m
  ·rw [Aa.put_ne _ _ z] at q
   exact (k.sat a y q).at' fun _ e => (hs.2 a z).trans e
 keep := fun a y q h _ => (hs.2 a (fun z => by
  subst z
  rcases h with h | h
  ·rw [e] at h; cases h
  ·exact h hx)).trans q
 live := SameBut.live hs m.there
 dom := fun a h => by
  by_cases z : a = x
  ·subst z; left; rw [e]; simp
  ·rw [Aa.put_ne _ _ z] at h; exact .inl h
 os := rfl
 gens := rfl
theorem Ah.own {own : Addr → Prop} {σ : Aa} {s : Shared} (k : Ok h0 σ s) {x : Addr} {h' : Heap} {tk : Nat} (e : σ x = none) (hx : own x) (hs : Heap.SameBut x s.heap h') (hl : ∃ o', h'.get? x = some o') :
  Ah h0 own σ s σ { s with heap := h', toks := tk } where
 sat := fun a y q => (k.sat a y q).at' fun _ e' => (hs.2 a (fun z => by subst z; rw [e] at q; cases q)).trans e'
 keep := fun a y q _ ho => (hs.2 a fun z => ho (z ▸ hx)).trans q
 live := SameBut.live hs hl
 dom := fun a h => .inl h
 os := rfl
 gens := rfl
structure Ax (h0 : Heap) (env : Env) : Prop where
 kind : env.scope.kind = .function
 glob : env.globals = mainGlobals
 bi : env.builtins = builtinsNs
 loc : Bs h0 env.locals
 cel : ∀ n c, (n, c) ∈ env.cells → Bs h0 c
 lk : ∀ x, env.kindOf x = some .cell → ∃ c, env.cells.lookup x = some c
 lc : ∀ n c, (n, c) ∈ env.cells → env.locals ≠ c
noncomputable def Ab (env : Env) : Addr → Prop := fun a => a = env.locals ∨ ∃ n, (n, a) ∈ env.cells
theorem Ax.own {env : Env} (e : Ax h0 env) : ∀ a, Ab env a → Bs h0 a := fun a h => by
 rcases h with rfl | ⟨n, h⟩
 ·exact e.loc
 ·exact e.cel n a h
structure Fm (env : Env) (nm : List Str) (ρ : Loc) (σ : Aa) (h : Heap) : Prop where
 ns : ∃ m, h.Ns env.locals m ∧ ∀ i x v, nm[i]? = some x → env.kindOf x = some .local → ρ.getD i none = some v → ∃ u, m x = some u ∧ Af u = v
 cell : ∀ i x v, nm[i]? = some x → env.kindOf x = some .cell → ρ.getD i none = some v → ∃ c u, env.cells.lookup x = some c ∧ h.IsCell c (some u) ∧ Af u = v
 any : ∀ x c, (x, c) ∈ env.cells → ∃ v, h.IsCell c v
 off : ∀ a, Ab env a → σ a = none
theorem Fm.post {env : Env} {nm : List Str} {ρ : Loc} {σ σ' : Aa} {s s' : Shared} (f : Fm env nm ρ σ s.heap) (p : Ah h0 Aj σ s σ' s') : Fm env nm ρ σ' s'.heap := by
 have kp : ∀ a, Ab env a → ∀ o, s.heap.get? a = some o → s'.heap.get? a = some o := fun a ha o e => p.keep a o e (.inl (f.off a ha)) id
 refine zEA f.ns fun m hn hm => ?_
 refine ⟨iEA m (hn.at' fun o e => kp _ (.inl rfl) o e) hm, fun i x v e1 e2 e3 => ?_, fun x c hc => ?_, fun a ha => ?_⟩
 ·(refine Bv (f.cell i x v e1 e2 e3) fun c u h1 zq0 h4 => ?_; refine zEA zq0 fun o h2 h3 => ?_)
  exact Ba c u h1 (iEA o (kp c (.inr ⟨x, mem_of_lookup h1⟩) o h2) h3) h4
 ·refine Ei (f.any x c hc) fun v o h2 h3 => ?_
  exact C5 v o (kp c (.inr ⟨x, hc⟩) o h2) h3
 ·cases e : σ' a with
  | none => rfl
  | some y =>
   rcases p.dom a (by rw [e]; simp) with z | z
   ·exact absurd (f.off a ha) z
   ·exfalso
    rcases ha with rfl | ⟨n, hc⟩
    ·refine It hn fun _ _ _ q _ => ?_; rw [z] at q; cases q
    ·refine Ei (f.any n a hc) fun v o q _ => ?_; rw [z] at q; cases q
structure Cy (A : Around) (n : Nat) : Prop where
 depth : A.depth + n ≤ 900
 units : A.units + 100 * n ≤ 5000
 handled : A.handled = none
end
section
variable {h0 : Heap} {prog : Program} {w : World} {A : Around} {E : Value → Shared → Prop}
theorem Al {v : Value} {i : Int} (e : Af v = .int i) : ∃ t, v = .int i t := by
 cases v <;> simp [Af] at e; subst e; exact ⟨_, rfl⟩
theorem Dx {v : Value} {b : Bool} (e : Af v = .bool b) : v = .bool b := by
 cases v <;> simp [Af] at e; subst e; rfl
theorem Av {v : Value} {a : Addr} (e : Af v = .ref a) : v = .ref a := by
 cases v <;> simp [Af] at e; subst e; rfl
theorem Mi {v : Value} (e : Af v = .none) : v = .none := by
 cases v <;> simp [Af] at e; rfl
noncomputable def Rs (h0 : Heap) (Q : V → Aa → Prop) (σ : Aa) (s : Shared) : Value → Shared → Prop := fun v s' => ∃ σ', Q (Af v) σ' ∧ Ah h0 Aj σ s σ' s'
noncomputable def Rb (h0 : Heap) (Q : Bool → Aa → Prop) (σ : Aa) (s : Shared) : Bool → Shared → Prop := fun v s' => ∃ σ', Q v σ' ∧ Ah h0 Aj σ s σ' s'
theorem Rs.up {Q : V → Aa → Prop} {σ σ₁ : Aa} {s s₁ : Shared} (p : Ah h0 Aj σ s σ₁ s₁) {v : Value} {s' : Shared} (r : Rs h0 Q σ₁ s₁ v s') : Rs h0 Q σ s v s' := by
 obtain ⟨σ', q, p'⟩ := r; exact iEA σ' q (p.trans p')
theorem Rb.up {Q : Bool → Aa → Prop} {σ σ₁ : Aa} {s s₁ : Shared} (p : Ah h0 Aj σ s σ₁ s₁) {v : Bool} {s' : Shared} (r : Rb h0 Q σ₁ s₁ v s') : Rb h0 Q σ s v s' := by
 obtain ⟨σ', q, p'⟩ := r; exact iEA σ' q (p.trans p')
theorem up {t : Sem Value} {Q : V → Aa → Prop} {σ σ₁ : Aa} {s s₁ : Shared} {M : Model} (p : Ah h0 Aj σ s σ₁ s₁) (h : wpAny M A t (Rs h0 Q σ₁ s₁) E s₁) : wpAny M A t (Rs h0 Q σ s) E s₁ :=
 wpAny_mono h (fun _ _ r => r.up p) fun _ _ e => e
theorem upb {t : Sem Bool} {Q : Bool → Aa → Prop} {σ σ₁ : Aa} {s s₁ : Shared} {M : Model} (p : Ah h0 Aj σ s σ₁ s₁) (h : wpAny M A t (Rb h0 Q σ₁ s₁) E s₁) : wpAny M A t (Rb h0 Q σ s) E s₁ :=
 wpAny_mono h (fun _ _ r => r.up p) fun _ _ e => e
theorem Ok.post0 {σ σ' : Aa} {s s' : Shared} (k : Ok h0 σ s) (p : Ah h0 Aj σ s σ' s') : Ok h0 σ' s' := k.post p fun _ h => h.elim
theorem Rs.here {Q : V → Aa → Prop} {σ : Aa} {s : Shared} (k : Ok h0 σ s) {v : Value} {n : Nat} (q : Q (Af v) σ) : Rs h0 Q σ s v { s with toks := n } := iEA σ q (.toks k)
theorem Rs.now {Q : V → Aa → Prop} {σ : Aa} {s : Shared} (k : Ok h0 σ s) {v : Value} (q : Q (Af v) σ) : Rs h0 Q σ s v s := iEA σ q (.refl k)
theorem Rb.now {Q : Bool → Aa → Prop} {σ : Aa} {s : Shared} (k : Ok h0 σ s) {v : Bool} (q : Q v σ) : Rb h0 Q σ s v s := iEA σ q (.refl k)
theorem dQ {a b : Int} (h : Hh a b) : IntMulOk a b := by
 rcases h with h | h | h
 ·exact IntMulOk.of_left h
 ·exact IntMulOk.of_right h
 ·unfold IntMulOk Builtin.Int.intTooBig
  have : ¬ (Builtin.Int.intBits a + Builtin.Int.intBits b > bitsLine) := by rw [bitsLine_eq]; unfold bitsI at h; lia
  simp only [Bool.and_eq_true, decide_eq_true_eq, not_and]
  intro _ _; lia
theorem Rs.list {Q : V → Aa → Prop} {σ : Aa} {s : Shared} (k : Ok h0 σ s) {xs : Array Value} (hz : xs.size ≤ LIM) (q : Co (Bs h0) (.list (xs.toList.map Af)) σ Q) :
  Rs h0 Q σ s (.ref s.heap.objs.size) { s with heap := s.heap.push { cls := .type "list", data := .seq xs } } :=
 (iEA (σ.put s.heap.objs.size (.list (xs.toList.map Af))) (q _ _ (k.bs (get?_size _)) (k.fresh (get?_size _)) (Gm (k.fresh (get?_size _))) (Aa.put_self ..)) (.alloc k (Ay xs ⟨0, Heap.get?_push_size _ rfl⟩ rfl (by simpa using hz))))
theorem Rs.tup {Q : V → Aa → Prop} {σ : Aa} {s : Shared} (k : Ok h0 σ s) {xs : Array Value} (hz : xs.size ≤ LIM) (q : Co (Bs h0) (.tup (xs.toList.map Af)) σ Q) :
  Rs h0 Q σ s (.ref s.heap.objs.size) { s with heap := s.heap.push { cls := .type "tuple", data := .seq xs } } :=
 (iEA (σ.put s.heap.objs.size (.tup (xs.toList.map Af))) (q _ _ (k.bs (get?_size _)) (k.fresh (get?_size _)) (Gm (k.fresh (get?_size _))) (Aa.put_self ..)) (.alloc k (Ba xs 0 (Heap.get?_push_size _ rfl) rfl (by simpa using hz))))
theorem T9 {o : Operator} {a b : Value} {σ : Aa} {s : Shared} {Q : V → Aa → Prop} (k : Ok h0 σ s) (h : Ua (Bs h0) o (Af a) (Af b) σ Q) :
  wpAny (model prog w) A (binaryOp o a b) (Rs h0 Q σ s) E s := by
 unfold Ua at h
 split at h
 ·rename_i e1 e2; obtain ⟨t, rfl⟩ := Al e1; obtain ⟨u, rfl⟩ := Al e2
  cases o with
  | Add => exact P.add_int (Rs.here k h)
  | Sub => exact P.sub_int (Rs.here k h)
  | Mult => exact P.mul_int (Rs.here k h.2) (dQ h.1)
  | FloorDiv => exact floordiv_int h.1.1 (Rs.here k h.2) (.inl (PyProof.noPylong_small h.1.2))
  | Mod => exact mod_int' h.1 (Rs.here k h.2)
  | LShift => exact lshift_int h.1.1 (by have := h.1.2; unfold bitsI at this; omega) (Rs.here k h.2)
  | RShift => exact rshift_int h.1 (Rs.here k h.2)
  | BitAnd => exact and_int (Rs.here k h)
  | BitOr => exact or_int (Rs.here k h)
  | Pow => exact pow_int h.1.1 (by have := h.1.2; unfold bitsI at this; omega) (Rs.here k h.2)
  | _ => exact False.elim h
 ·rename_i x y e1 e2
  cases o with
  | Add =>
   rw [Av e1, Av e2]
   obtain ⟨xs, ys, ⟨hx, hy, hl⟩, h⟩ := h
   obtain ⟨xa, ⟨n, gx⟩, rfl, _⟩ := k.sat _ _ hx
   obtain ⟨ya, ⟨m, gy⟩, rfl, _⟩ := k.sat _ _ hy
   have hl' : xa.size + ya.size ≤ LIM := by simpa using hl
   refine P.add_list gx gy (Rs.list k (by rw [Array.size_append]; exact hl') ?_) (by rw [sizeLine_eq]; exact hl')
   rw [Array.toList_append, List.map_append]; exact h
  | _ => exact False.elim h
 ·rename_i x n e1 e2
  cases o with
  | Mult =>
   obtain ⟨u, rfl⟩ := Al e2
   rw [Av e1]
   obtain ⟨v, ⟨hx, hn0, hn⟩, h⟩ := h
   obtain ⟨xa, ⟨m, gx⟩, ex, _⟩ := k.sat _ _ hx
   obtain ⟨u', hu⟩ : ∃ u', xa.toList = [u'] := by
    cases q : xa.toList with
    | nil => rw [q] at ex; cases ex
    | cons y r => rw [q] at ex; cases r with
     | nil => exact ⟨y, rfl⟩
     | cons _ _ => cases ex
   have hxa : xa = #[u'] := by rw [← Array.toArray_toList (xs := xa), hu]
   rw [hu] at ex
   have ev : Af u' = v := by simpa using ex
   subst hxa
   have hn' : n ≤ 16777216 := hn
   have h1 : n.toNat ≤ LIM := by show n.toNat ≤ 16777216; exact lq 0x222210000007fb0000e810000007fb062 [n.toNat] [n] hn' (ltn n (lz 0x22200b600b61 [n] hn0))
   refine wpAny_binaryOp_repeat_ref (T := "list") (U := "int") (by decide) (iEA _ gx rfl) (fun s' => typeIs_int s' n u) noFill_list_mul F.fills_int_mul F.slot_int_rmul repeat_list F.slot_int_index.lookup
     (call_meets F.slot_int_rmul (typeIs_int s n u) F.entry_int_rmul (F.args_int_rmul_2 _ _) (int___rmul___int_list n u x #[u'] m)
      ⟨gx, rfl, (iEA _ gx rfl), call_meets F.slot_list_mul (iEA _ gx rfl) F.entry_list_mul (F.args_list_mul_2 _ _)
       (AutoListH.list___mul___list_int_3 x #[u'] m n u (by simp [Builtin.List.listFitsIndex]; lia) (by simp; exact lz 0x222fffffffffffffffffb0610000007fb061 [n] hn') (by simp [Builtin.List.listTooLong, sizeLine]; omega))
       ⟨gx, ?_⟩⟩)
   have e0 : List.foldl (fun (x1 x2 : Array Value) => x1 ++ x2) #[] (List.replicate (if (#[u'] : Array Value).isEmpty = true then 0 else n.toNat) #[u']) = (List.replicate n.toNat u').toArray := by
    rw [listMul_foldl_if]; rw [lm_rep_flat_one]
   rw [e0]
   refine Rs.list k (by simpa using h1) ?_
   simpa [ev] using h
  | _ => exact False.elim h
 ·exact h.elim
theorem Qp {o : Operator} {a b : Value} {σ : Aa} {s : Shared} {Q : V → Aa → Prop} (k : Ok h0 σ s) (ho : o = .Add ∨ o = .Sub ∨ o = .RShift ∨ o = .Mod ∨ o = .BitOr) (hi : ∃ i, Af a = .int i)
  (h : Ua (Bs h0) o (Af a) (Af b) σ Q) : wpAny (model prog w) A (inplaceOp o a b) (Rs h0 Q σ s) E s := by
 refine zE hi fun i hi => ?_
 (refine zE (Al hi) fun t zq0 => ?_; subst zq0)
 rw [hi] at h
 cases hb : Af b with
 | int j =>
  (refine zE (Al hb) fun u zq0 => ?_; subst zq0)
  rw [hb] at h
  rcases ho with rfl | rfl | rfl | rfl | rfl
  ·exact P.iadd_int (Rs.here k h)
  ·exact P.isub_int (Rs.here k h)
  ·exact irshift_int h.1 (Rs.here k h.2)
  ·exact imod_int h.1 (Rs.here k h.2)
  ·exact ior_int (Rs.here k h)
 | none => rw [hb] at h; rcases ho with rfl | rfl | rfl | rfl | rfl <;> exact h.elim
 | bool _ => rw [hb] at h; rcases ho with rfl | rfl | rfl | rfl | rfl <;> exact h.elim
 | ref _ => rw [hb] at h; rcases ho with rfl | rfl | rfl | rfl | rfl <;> exact h.elim
 | oth _ => rw [hb] at h; rcases ho with rfl | rfl | rfl | rfl | rfl <;> exact h.elim
theorem Tq {a : Value} {σ : Aa} {s : Shared} {Q : V → Aa → Prop} (k : Ok h0 σ s) (h : bJ (Af a) fun v => Q v σ) : wpAny (model prog w) A (unaryOp .USub a) (Rs h0 Q σ s) E s := by
 unfold bJ at h
 split at h
 ·rename_i e; (refine zE (Al e) fun t zq0 => ?_; subst zq0); exact P.neg_int (Rs.here k h)
 ·exact h.elim
theorem Fq {a : Value} {σ : Aa} {s : Shared} {Q : Bool → Aa → Prop} (k : Ok h0 σ s) (h : J2 (Af a) fun t => Q t σ) : wpAny (model prog w) A (truthy a) (Rb h0 Q σ s) E s := by
 unfold J2 at h
 split at h
 ·rename_i e; rw [Dx e]; exact wpAny_truthy_bool (Rb.now k h)
 ·rename_i e; (refine zE (Al e) fun t zq0 => ?_; subst zq0); exact P.truthy_int (Rb.now k h)
 ·exact h.elim
theorem G7 : ∀ {vs : List Value} {ns : List Int}, vs.map Af = ns.map V.int → IntsAre vs ns
 | [], [], _ => .nil
 | [], _ :: _, e => by cases e
 | _ :: _, [], e => by cases e
 | v :: vs, n :: ns, e => by
  simp only [List.map_cons, List.cons.injEq] at e
  (refine zE (Al e.1) fun t zq0 => ?_; subst zq0)
  exact .cons n t (G7 e.2)
theorem Iq {h : Heap} : ∀ (vs : List Value) (ds : List PyData), vs.length = ds.length → (∀ (i : Nat) v d, vs[i]? = some v → ds[i]? = some d → ∃ as, Reads h v d as) → ∃ as, ReadsAll h vs ds as
 | [], [], _, _ => ⟨_, .nil⟩
 | [], _ :: _, e, _ => by cases e
 | _ :: _, [], e, _ => by cases e
 | v :: vs, d :: ds, e, f => by
  refine zE (f 0 v d rfl rfl) fun as r => ?_
  refine zE (Iq vs ds (by simpa using e) fun i v d h1 h2 => f (i + 1) v d (by simpa using h1) (by simpa using h2)) fun bs q => ?_
  exact ⟨_, .cons r q⟩
theorem Q4 : ∀ (ds : List PyData), (∀ d ∈ ds, d.canLay0 = true) → PyData.canLayAll0 ds = true
 | [], _ => by simp [PyData.canLayAll0]
 | d :: ds, h => by simp only [PyData.canLayAll0, h d (.head _), Q4 ds fun e m => h e (.tail _ m), Bool.and_self]
theorem Q1 (n : Nat) : ∀ (ds : List PyData), (∀ d ∈ ds, d.depth ≤ n) → PyData.depthAll ds ≤ n
 | [], _ => by simp [PyData.depthAll]
 | d :: ds, h => by
  have h1 := h d (.head _)
  have h2 := Q1 n ds fun e m => h e (.tail _ m)
  simp only [PyData.depthAll]; lia
theorem J3 {σ : Aa} {s : Shared} (k : Ok h0 σ s) : ∀ (n : Nat) (v : Value) (d : PyData), K5 σ n (Af v) d → (∃ as, Reads s.heap v d as) ∧ d.canLay0 = true ∧ d.depth ≤ n := by
 intro n
 induction n with
 | zero =>
  intro v d h
  cases hv : Af v <;> cases d <;> rw [hv] at h <;> first | exact False.elim h | skip
  ·replace h : _ = _ := h; subst h; rw [Dx hv]; exact ⟨⟨_, .bool _⟩, by simp [PyData.canLay0], by simp [PyData.depth]⟩
  ·replace h : _ = _ := h; subst h; (refine zE (Al hv) fun t zq0 => ?_; subst zq0); exact ⟨⟨_, .int _ _⟩, by simp [PyData.canLay0], by simp [PyData.depth]⟩
 | succ n ih =>
  intro v d h
  cases hv : Af v <;> cases d <;> rw [hv] at h <;> first | exact False.elim h | skip
  ·replace h : _ = _ := h; subst h; rw [Dx hv]; exact ⟨⟨_, .bool _⟩, by simp [PyData.canLay0], by simp [PyData.depth]⟩
  ·replace h : _ = _ := h; subst h; (refine zE (Al hv) fun t zq0 => ?_; subst zq0); exact ⟨⟨_, .int _ _⟩, by simp [PyData.canLay0], by simp [PyData.depth]⟩
  all_goals
   rename_i a ds
   refine A6 h fun vs hs hl hi => ?_
   rw [Av hv]
  ·(refine A6 (k.sat _ _ hs) fun xs zq0 zq1 _ => ?_; refine zE zq0 fun m g => ?_; subst zq1)
   have one : ∀ (i : Nat) x d, xs.toList[i]? = some x → ds[i]? = some d → (∃ as, Reads s.heap x d as) ∧ d.canLay0 = true ∧ d.depth ≤ n := fun i x d h1 h2 => ih x d (hi i _ d (by rw [List.getElem?_map, h1]; rfl) h2)
   have mem : ∀ d ∈ ds, d.canLay0 = true ∧ d.depth ≤ n := fun d hd => by
    obtain ⟨i, hi', e⟩ := List.mem_iff_getElem.mp hd
    have hl' : i < xs.toList.length := by rw [List.length_map] at hl; exact o7 hl hi'
    exact (one i xs.toList[i] d (List.getElem?_eq_getElem hl') (by rw [List.getElem?_eq_getElem hi', e])).2
   refine zE (Iq xs.toList ds (by simpa using hl) fun i x d h1 h2 => (one i x d h1 h2).1) fun as r => ?_
   refine ⟨⟨_, reads_list_at g rfl rfl r⟩, by simpa [PyData.canLay0] using Q4 ds fun d hd => (mem d hd).1, ?_⟩
   have := Q1 n ds fun d hd => (mem d hd).2
   simp only [PyData.depth]; exact o99 this
  ·(refine Bv (k.sat _ _ hs) fun xs m g zq0 _ => ?_; subst zq0)
   have one : ∀ (i : Nat) x d, xs.toList[i]? = some x → ds[i]? = some d → (∃ as, Reads s.heap x d as) ∧ d.canLay0 = true ∧ d.depth ≤ n := fun i x d h1 h2 => ih x d (hi i _ d (by rw [List.getElem?_map, h1]; rfl) h2)
   have mem : ∀ d ∈ ds, d.canLay0 = true ∧ d.depth ≤ n := fun d hd => by
    obtain ⟨i, hi', e⟩ := List.mem_iff_getElem.mp hd
    have hl' : i < xs.toList.length := by rw [List.length_map] at hl; exact o7 hl hi'
    exact (one i xs.toList[i] d (List.getElem?_eq_getElem hl') (by rw [List.getElem?_eq_getElem hi', e])).2
   refine zE (Iq xs.toList ds (by simpa using hl) fun i x d h1 h2 => (one i x d h1 h2).1) fun as r => ?_
   refine ⟨⟨_, reads_tuple_at g rfl rfl r⟩, by simpa [PyData.canLay0] using Q4 ds fun d hd => (mem d hd).1, ?_⟩
   have := Q1 n ds fun d hd => (mem d hd).2
   simp only [PyData.depth]; exact o99 this
theorem Mf {o : CmpOp} {a b : Value} {σ : Aa} {s : Shared} {Q : V → Aa → Prop} {n : Nat} (k : Ok h0 σ s) (R : Cy A n) (h : Q2 o (Af a) (Af b) σ fun t => Q (.bool t) σ) :
  wpAny (model prog w) A (compareOp o a b) (Rs h0 Q σ s) E s := by
 have hu : A.units + 64 < cLine := by have := R.units; show A.units + 64 < 9900; exact ln 0x22226ac4fb402fb0a113884fb1642f80a01 [A.units, n] this
 unfold Q2 at h
 split at h
 ·rename_i i j e1 e2; (refine zE (Al e1) fun t zq0 => ?_; subst zq0); (refine zE (Al e2) fun u zq0 => ?_; subst zq0)
  cases o with
  | Lt => exact P.lt_int (Rs.now k h)
  | LtE => exact P.le_int (Rs.now k h)
  | Gt => exact P.gt_int (Rs.now k h)
  | GtE => exact P.ge_int (Rs.now k h)
  | Eq => exact P.eq_int (Rs.now k (by show Q (.bool (i == j)) σ; rw [show (i == j) = decide (i = j) from by rw [Bool.eq_iff_iff]; simp]; exact h))
  | NotEq => exact P.ne_int (Rs.now k (by show Q (.bool (i != j)) σ; rw [show (i != j) = decide (i ≠ j) from by rw [Bool.eq_iff_iff]; simp]; exact h))
  | _ => exact False.elim h
 ·rename_i i j e1 e2; rw [Dx e1, Dx e2]
  cases o with
  | Eq => exact eq_bool (Rs.now k (by show Q (.bool (i == j)) σ; rw [show (i == j) = decide (i = j) from by rw [Bool.eq_iff_iff]; simp]; exact h))
  | NotEq => exact ne_bool (Rs.now k (by show Q (.bool (i != j)) σ; rw [show (i != j) = decide (i ≠ j) from by rw [Bool.eq_iff_iff]; simp]; exact h))
  | _ => exact False.elim h
 ·rename_i x y e1 e2
  cases o with
  | NotEq =>
   rw [Av e1, Av e2]
   (refine Ei h fun xs ys zq0 h => ?_; have hx := zq0.1; have hy := zq0.2)
   refine A6 (k.sat _ _ hx) fun xa gx ex _ => ?_
   refine A6 (k.sat _ _ hy) fun ya gy ey _ => ?_
   refine ke_ne_ints (xs := xa.toList) (ys := ya.toList) (by simpa using gx.isList) (by simpa using gy.isList) (G7 ex) (G7 ey) hu (Rs.now k ?_)
   show Q (.bool (!decide (xs = ys))) σ
   rw [show (!decide (xs = ys)) = decide (xs ≠ ys) from by simp]; exact h
  | Eq =>
   (refine zEA h fun t zq0 h => ?_; have hx := zq0.1; have hy := zq0.2)
   rw [← e1] at hx
   rw [← e2] at hy
   (refine zAA (J3 k 6 a t hx) fun zq0 ca da => ?_; refine zE zq0 fun as ra => ?_)
   (refine zAA (J3 k 6 b t hy) fun zq0 _ _ => ?_; refine zE zq0 fun bs rb => ?_)
   refine SeqAt.compareEq_reads ra rb ca ca (ln 0x22222210a13106b302402fb0a13 [A.units, min t.depth t.depth, cLine, t.depth] hu da (Nat.min_le_left t.depth t.depth)) (Rs.now k ?_)
   rw [SeqAt.eqv_refl t ca]; exact h
  | _ => exact False.elim h
 ·exact h.elim
theorem S0 {n : Int} {len j : Nat} (h : Ib n len j) (hj : j < len) : seqIndex? n len = some j := by
 unfold seqIndex?
 rcases h with h | h
 ·have : ¬ n < 0 := by exact lq 0x2120b0a0e081 [j] [n] h
  simp only [this, if_false]
  rw [if_pos (by simp; exact ⟨lq 0x21200b60e081 [j] [n] h, lq 0x22220e071e080112 [len, j] [n] hj h⟩)]; simp; exact lq 0x11222210200e81e082 [n.toNat, j] [n] h (ltn n (lq 0x21200b60e081 [j] [n] h))
 ·have : n < 0 := by exact lq 0x22220b071e0ec081012 [j, len] [n] hj h
  simp only [this, if_true]
  rw [if_pos (by simp; exact ⟨lq 0x2120e0a0b60e1ec081 [len, j] [n] h, lq 0x22220e0e0a70e1ec080112 [len, j] [n] hj h⟩)]; simp; exact lq 0x1122221022e0a0e82e1ec082 [(n + (↑len : Int)).toNat, j, len] [n] h (ltn (n + (↑len : Int)) (lq 0x2120e0a0b60e1ec081 [len, j] [n] h))
theorem Lm {a b : Value} {σ : Aa} {s : Shared} {Q : V → Aa → Prop} (k : Ok h0 σ s) (h : Wg (Af a) (Af b) σ fun v => Q v σ) : wpAny (model prog w) A (getItem a b) (Rs h0 Q σ s) E s := by
 unfold Wg at h
 split at h
 ·rename_i x n e1 e2
  (refine zE (Al e2) fun t zq0 => ?_; subst zq0)
  rw [Av e1]
  (refine It h fun xs j v zq0 h => ?_; refine zAA zq0 fun hs hi hv => ?_)
  have hj : j < xs.length := by
   rcases Nat.lt_or_ge j xs.length with q | q
   ·exact q
   ·rw [List.getElem?_eq_none q] at hv; cases hv
  rcases hs with hs | hs
  ·(refine A6 (k.sat _ _ hs) fun xa g zq0 hl => ?_; subst zq0)
   rw [List.getElem?_map] at hv
   (refine zEA (Option.map_eq_some_iff.mp hv) fun u hu zq0 => ?_; subst zq0)
   have hl' : (xa.toList.map Af).length ≤ 16777216 := hl
   have hsz : xa.size = (xa.toList.map Af).length := by simp
   rcases hi with hi | hi
   ·refine wpAny_getItem_list g.isList (lq 0x21200b60e081 [j] [n] hi) (by lia) (x := u) ?_ (Rs.now k h)
    rw [hi]; simpa using hu
   ·refine wpAny_getItem_list_neg g.isList (lq 0x22220b071e0ec081012 [j, (List.map Af xa.toList).length] [n] hj hi) (lq 0x211200ed61e2ec081022 [xa.size, (List.map Af xa.toList).length, j] [n] hsz hi) (by lia) (x := u) ?_ (Rs.now k h)
    rw [show (n + (xa.size : Int)).toNat = j by (exact lq 0x111222221022e0a0e83e1ec083223 [(n + (↑xa.size : Int)).toNat, j, xa.size, (List.map Af xa.toList).length] [n] hsz hi (ltn (n + (↑xa.size : Int)) (lq 0x21120e0a0b61e2ec081022 [xa.size, (List.map Af xa.toList).length, j] [n] hsz hi)))]; simpa using hu
  ·(refine Bv (k.sat _ _ hs) fun xa m g zq0 hl => ?_; subst zq0)
   rw [List.getElem?_map] at hv
   (refine zEA (Option.map_eq_some_iff.mp hv) fun u hu zq0 => ?_; subst zq0)
   have hl' : (xa.toList.map Af).length ≤ 16777216 := hl
   have hsz : xa.size = (xa.toList.map Af).length := by simp
   have hlo : -(2 ^ 63 : Int) ≤ n := by rcases hi with hi | hi <;> omega
   have hhi : n < 2 ^ 63 := by rcases hi with hi | hi <;> omega
   exact getItem_tuple (ht := ((Ay _ g rfl ⟨m, rfl⟩) : IsTup s.heap x xa)) hlo hhi (S0 (by rw [hsz]; exact hi) (by rw [hsz]; exact hj)) (by simpa using hu) (Rs.now k h)
 ·exact h.elim
theorem bV (xs : Array Value) (lo hi : Option Int) : (slicePick xs lo hi none).toList.map Af = cut (xs.toList.map Af) lo hi := by
 rw [kms_pick_eq]
 simp only [kms_pick, cut, List.map_take, List.map_drop, List.length_map]
 have e1 : ∀ n, kms_lo lo n = Fk lo n := fun n => by cases lo <;> rfl
 have e2 : ∀ n, kms_hi hi n = Eh hi n := fun n => by cases hi <;> rfl
 rw [e1, e2]
theorem Lb {a b v : Value} {σ : Aa} {s : Shared} {Q : Aa → Prop} (k : Ok h0 σ s) (h : H7 (Bs h0) (Af a) (Af b) (Af v) σ Q) :
  wpAny (model prog w) A (setItem a b v) (fun _ s' => ∃ σ', Q σ' ∧ Ah h0 Aj σ s σ' s') E s := by
 unfold H7 at h
 split at h
 ·rename_i x n e1 e2
  (refine zE (Al e2) fun t zq0 => ?_; subst zq0)
  rw [Av e1]
  (refine Ei h fun xs j zq0 h => ?_; refine G1 zq0 fun hb hs zq1 hj => ?_; subst zq1)
  (refine A6 (k.sat _ _ hs) fun xa zq0 zq1 hl => ?_; refine zE zq0 fun m g => ?_; subst zq1)
  have hl' : (xa.toList.map Af).length ≤ 16777216 := hl
  have hsz : xa.size = (xa.toList.map Af).length := by simp
  refine ki_setAt g (o39) (by lia) (ln 0x21221e0e72122012 [j, xa.size, (List.map Af xa.toList).length] hj hsz) ?_
  have e : (s.heap.update x (Obj.mapSeq (·.setIfInBounds j v))).get? x = some { cls := .type "list", data := .seq (xa.setIfInBounds j v) m } := by
   rw [Heap.get?_update_self _ g (by simp [Obj.mapSeq, Obj.isFreed])]
   simp [Obj.mapSeq]
  refine iEA _ (h (σ.put x (.list ((xa.toList.map Af).set j (Af v)))) G9 (Aa.put_self ..)) (.upd (tk := s.toks) k hs hb (Heap.SameBut.update ..) (Ay _ ⟨m, e⟩ ?_ (by simpa using hl)))
  simp [List.map_set]
 ·exact h.elim
theorem N2 {a v : Value} {σ : Aa} {s : Shared} {Q : V → Aa → Prop} (k : Ok h0 σ s) (h : cK (Bs h0) (Af a) (Af v) σ Q) :
  wpAny (model prog w) A (call (.builtin "list.append") [a, v]) (Rs h0 Q σ s) E s := by
 unfold cK at h
 split at h
 ·rename_i x e1
  rw [Av e1]
  (refine zEA h fun xs zq0 h => ?_; refine zAA zq0 fun hb hs hl => ?_)
  (refine A6 (k.sat _ _ hs) fun xa g zq0 _ => ?_; subst zq0)
  have hl' : (xa.toList.map Af).length < 16777216 := hl
  have hsz : xa.size = (xa.toList.map Af).length := by simp
  refine wpAny_list_append_plain g (fun h' g' hs' => ?_) (by rw [sizeLine_eq]; exact ln 0x222210000007fb0010210000007fb112 [xa.size, (List.map Af xa.toList).length] hl' hsz)
  refine iEA _ (h (σ.put x (.list (xa.toList.map Af ++ [Af v]))) G9 (Aa.put_self ..)) (.upd (tk := s.toks) k hs hb hs' (Ay _ g' (by simp) ?_))
  show (xa.toList.map Af ++ [Af v]).length ≤ 16777216
  rw [List.length_append, List.length_singleton]; assumption
 ·exact h.elim
noncomputable def cC : Bif → Value
 | .len => .builtin "len" | .abs => .builtin "abs" | .int => .type "int" | .min => .builtin "min" | .max => .builtin "max" | .sum => .builtin "sum"
theorem Ah.moved {own : Addr → Prop} {σ : Aa} {s s' : Shared} (k : Ok h0 σ s) (hk : ∀ b ob, s.heap.get? b = some ob → s'.heap.get? b = some ob) (ho : s'.os = s.os) (hg : s'.gens = s.gens) : Ah h0 own σ s σ s' where
 sat := fun a x e => (k.sat a x e).at' fun _ => hk _ _
 keep := fun a o e _ _ => hk _ _ e
 live := fun a o e => ⟨o, hk _ _ e⟩
 dom := fun a h => .inl h
 os := ho
 gens := hg
theorem Tf (ns : List Int) : ∀ j, j ≤ ns.length → preSum (fun i => ns.getD i 0) j = (ns.take j).sum := by
 intro j
 induction j with
 | zero => intro _; simp [preSum]
 | succ j ih =>
  intro h
  rw [preSum, ih (o76 h)]
  have : ns[j]? = some (ns[j]'‹_›) := List.getElem?_eq_getElem ‹_›
  rw [List.take_add_one, this]
  simp [List.sum_append, List.getD, this, -List.take_append_getElem]
theorem Sa {α β : Type} {f : α → β} {l : List α} {b : β} (e : l.map f = [b]) : ∃ a, l = [a] ∧ f a = b := by
 cases l with
 | nil => cases e
 | cons x r => cases r with
  | nil => exact iEA x rfl (by simpa using e)
  | cons _ _ => cases e
theorem Yy {α β : Type} {f : α → β} {l : List α} {b c : β} (e : l.map f = [b, c]) : ∃ a d, l = [a, d] ∧ f a = b ∧ f d = c := by
 cases l with
 | nil => cases e
 | cons x r =>
  simp only [List.map_cons, List.cons.injEq] at e
  (refine zEA (Sa e.2) fun y zq0 q => ?_; subst zq0)
  exact Ba x y rfl e.1 q
theorem Ub {b : Bif} {vs : List Value} {σ : Aa} {s : Shared} {Q : V → Aa → Prop} {n : Nat} (k : Ok h0 σ s) (R : Cy A n) (h : Zr b (vs.map Af) σ fun v => Q v σ) :
  wpAny (model prog w) A (call (cC b) vs) (Rs h0 Q σ s) E s := by
 unfold Zr at h
 split at h
 ·rename_i v0 e
  (refine zEA (Sa e) fun v zq0 e1 => ?_; subst zq0)
  unfold eM at h
  split at h
  ·rename_i a
   rw [Av e1]
   cases b with
   | len =>
    refine zEA h fun xs hs h => ?_
    (refine A6 (k.sat _ _ hs) fun xa g zq0 hl => ?_; subst zq0)
    have hl' : (xa.toList.map Af).length ≤ 16777216 := hl
    have hsz : xa.size = (xa.toList.map Af).length := by simp
    refine call_len_list g.isList (by lia) (Rs.here (n := s.toks + 1 + 1) k ?_)
    show Q (.int xa.size) σ
    rw [hsz]; exact h
   | sum =>
    refine zEA h fun ns hs h => ?_
    refine A6 (k.sat _ _ hs) fun xa g ex hl => ?_
    have hlen : xa.size = ns.length := by have := congrArg List.length ex; simpa using this
    have lt : a < s.heap.objs.size := by refine zE g fun m g => ?_; exact Heap.lt_size g
    refine call_sum_walkAnyS (wpAny_pyIter_list g.isList ?_)
    refine Dj s.heap.objs.size ([s.heap.objs.size, a]) ([s.heap.objs.size]) _ xa.size _ _ (Fb (fun i => ns.getD i 0) rfl ((Walks.list (A := A.in1) R.handled s.heap.objs.size a (Nat.ne_of_lt lt) xa).toS) ⟨(Ay _ (Heap.get?_push_size _ rfl) rfl rfl), ?_⟩ ?_ ⟨?_, ?_⟩)
    ·refine zE g fun m g => ?_
     exact Ay _ (Heap.get?_push_of_some _ g) rfl ⟨m, rfl⟩
    ·intro b hb
     rw [Heap.size_push]
     simp only [List.mem_cons, List.not_mem_nil, or_false] at hb
     rcases hb with rfl | rfl
     ·exact Nat.lt_succ_self _
     ·exact Nat.lt_succ_of_lt lt
    ·intro i v hv
     have : (xa.toList.map Af)[i]? = some (Af v) := by rw [List.getElem?_map]; simp [hv]
     rw [ex, List.getElem?_map] at this
     refine zEA (Option.map_eq_some_iff.mp this) fun m hm e2 => ?_
     (refine zE (Al e2.symm) fun t zq0 => ?_; subst zq0)
     exact ⟨t, by simp [List.getD, hm]⟩
    ·intro s' t' M
     refine iEA σ ?_ (.moved k (fun b ob e => M.heap b ob (fun hm => ?_) (Heap.get?_push_of_some _ e)) M.os M.gens)
     ·show Q (.int (preSum _ _)) σ
      rw [hlen, Tf ns _ (Nat.le_refl _), List.take_length]; exact h
     ·have := Heap.lt_size e
      rw [List.mem_singleton.mp hm] at this
      exact absurd this (Nat.lt_irrefl _)
   | _ => exact False.elim h
  ·rename_i i
   (refine zE (Al e1) fun t zq0 => ?_; subst zq0)
   cases b with
   | abs =>
    refine call_abs_int fun u tk => Rs.here k ?_
    show Q (.int _) σ
    rw [show (if i < 0 then -i else i) = (i.natAbs : Int) by split <;> lia]; exact h
   | int =>
    exact call_int_int (Rs.now k h)
   | _ => exact False.elim h
  ·exact h.elim
 ·rename_i v0 u0 e
  (refine Bv (Yy e) fun v u zq0 e1 e2 => ?_; subst zq0)
  unfold eK at h
  split at h
  ·rename_i i j
   (refine zE (Al e1) fun t zq0 => ?_; subst zq0)
   (refine zE (Al e2) fun t' zq0 => ?_; subst zq0)
   cases b with
   | min =>
    refine min_two_ints R.handled fun h' tk hk => iEA σ ?_ (.junk k hk)
    rw [show min i j = (if j < i then j else i) by simp only [Int.min_def]; split <;> split <;> lia] at h
    by_cases q : j < i
    ·rw [if_pos q] at h ⊢; exact h
    ·rw [if_neg q] at h ⊢; exact h
   | max =>
    refine max_two_ints R.handled fun h' tk hk => iEA σ ?_ (.junk k hk)
    rw [show max i j = (if j > i then j else i) by simp only [Int.max_def]; split <;> split <;> lia] at h
    by_cases q : j > i
    ·rw [if_pos q] at h ⊢; exact h
    ·rw [if_neg q] at h ⊢; exact h
   | _ => exact False.elim h
  ·exact h.elim
 ·exact h.elim
end
noncomputable def GT0 : List (String × Nat) := [("OutOfRange", 49), ("normal", 58), ("nat_of", 65), ("compare", 72), ("add", 79), ("sub", 86), ("add_limb", 93), ("divrem_limb", 100), ("shift_left", 107), ("shift_right", 114), ("bits", 121), ("low", 128), ("signed", 135), ("s_of", 142), ("s_neg", 149), ("s_abs", 156), ("s_sign", 163), ("s_compare", 170), ("s_add", 177), ("s_sub", 184), ("s_mul", 191), ("tdiv", 198), ("fdiv", 205), ("s_shift", 212), ("NOUGHT", 214), ("dot", 221), ("row_less", 226), ("nearest_quotient", 233), ("Lattice", 304), ("mul_school", 315), ("divrem_small", 322), ("guessed_limb", 329), ("take_away", 336), ("put_back", 343), ("divide_rows", 350), ("divrem_school", 357), ("_law_raked", 364), ("_law_signed", 371), ("_law_plain", 376), ("_law_worth", 381), ("_law_is_same", 386), ("_law_sizes", 391), ("_law_product", 398)]
noncomputable def GT : List (Str × Addr) := GT0.map fun x => (Str.ofString x.1, x.2)
noncomputable def MT : List (Str × Addr) := [("product_of", 252), ("exact", 259), ("crossed", 266), ("take_in", 273), ("shorten", 280), ("is_upright", 287), ("exchange", 294), ("run", 301)]
noncomputable def okL (kd : Str → Option NameKind) (nm : List Str) (i : Nat) : Bool := decide (i < nm.length) && (kd (Ac nm i) == some .local || kd (Ac nm i) == some .cell) && Ac nm i != ("__debug__" : Str)
noncomputable def okB (kd : Str → Option NameKind) (x : Str) : Bool := kd x == some .globalImplicit
noncomputable def Dp (kd : Str → Option NameKind) (sc : Scope) (x : Str) : Option NameKind := (sc.names.map fun (n, k) => if (k == .free && kd n == some .cell) then (n, .cell) else (n, k)).lookup x
noncomputable def An : List Str → Bool
 | [] => true
 | x :: r => !r.contains x && An r
noncomputable def Oh (kd : Str → Option NameKind) (nm : List Str) : Tg → Bool
 | .one i _ => decide (i < nm.length) && kd (Ac nm i) == some .local
 | .two i _ j _ _ => decide (i < nm.length) && kd (Ac nm i) == some .local && decide (j < nm.length) && kd (Ac nm j) == some .local
noncomputable def Oi (kd : Str → Option NameKind) (nm : List Str) (sc : Scope) (cn : List Str) (cap : List (Option Nat)) : Bool :=
 sc.kind == .function && An (sc.names.map (·.1)) && (sc.names.all fun (n, k) => k != .cell && (k != .local || sc.names.lookup n == some .local) && (k != .free || kd n == some .cell)) && An cn && cn.length == cap.length &&
  ((cn.zip cap).all fun (x, c) => match c with
   | some j => decide (j < nm.length) && Ac nm j == x && sc.names.lookup x == some .free
   | none => sc.names.lookup x == some .local)
noncomputable def Ie : Ex → Bool
 | .call .. | .bif .. => false
 | _ => true
noncomputable def Ti : Ex → Bool
 | .loc .. | .glo .. | .idx .. | .call .. | .meth .. | .attr .. | .bif .. => true
 | _ => false
noncomputable def Bk : Exs → Nat
 | .nil => 0
 | .cons _ r => Bk r + 1
noncomputable def Do : Tg → Src → Bool
 | .one .., .range1 .. | .one .., .range2 .. | .one .., .range3 .. | .one .., .lst .. => true
 | .two .., .enum .. | .two .., .zip .. => true
 | _, _ => false
mutual
noncomputable def okE (kd : Str → Option NameKind) (nm : List Str) : Ex → Bool
 | .loc i _ => okL kd nm i
 | .glo x v _ => okB kd x && x != ("__debug__" : Str) && (match v with | .ref a => GT.lookup x == some a | _ => false)
 | .num .. => true
 | .boo .. => true
 | .bin _ l r _ => okE kd nm l && okE kd nm r
 | .neg e _ => okE kd nm e
 | .not e _ => okE kd nm e
 | .conj l r _ => okE kd nm l && okE kd nm r
 | .cmp _ l r _ => okE kd nm l && okE kd nm r
 | .ite c a b _ => okT kd nm c && okE kd nm a && okE kd nm b
 | .attr e k _ => Ie e && decide (k < 8) && okE kd nm e
 | .idx e i _ => okE kd nm e && okE kd nm i
 | .slAll e _ _ => okE kd nm e
 | .slTo e h _ _ => okE kd nm e && okE kd nm h
 | .slFrom e l _ _ => okE kd nm e && okE kd nm l
 | .slBoth e l h _ _ => okE kd nm e && okE kd nm l && okE kd nm h
 | .tup es _ => decide (Bk es < 20) && Le kd nm es
 | .lst es _ => decide (Bk es < 20) && Le kd nm es
 | .call f as _ => (match f with | .attr .. => false | _ => true) && decide (Bk as < 20) && okE kd nm f && Le kd nm as
 | .meth e x f as q p => Ie e && MT.lookup x == some f && decide (Bk as < 20) && q.endLine == p.line && okE kd nm e && Le kd nm as
 | .app e a q p => Ie e && q.endLine == p.line && okE kd nm e && okE kd nm a
 | .bitl e q p => Ie e && q.endLine == p.line && okE kd nm e
 | .bif b as _ _ => okB kd b.name && decide (Bk as < 20) && Le kd nm as
 | .comp el tg s sc cn cap _ => Do tg s && L7 kd nm s && Oi kd nm sc cn cap && Oh (Dp kd sc) cn tg && okE (Dp kd sc) cn el
 | .compIf el tg s c sc cn cap _ => Do tg s && L7 kd nm s && Oi kd nm sc cn cap && Oh (Dp kd sc) cn tg && okT (Dp kd sc) cn c && okE (Dp kd sc) cn el
noncomputable def Le (kd : Str → Option NameKind) (nm : List Str) : Exs → Bool
 | .nil => true
 | .cons e r => okE kd nm e && Le kd nm r
noncomputable def okT (kd : Str → Option NameKind) (nm : List Str) : Tst → Bool
 | .cmp o l r _ => (o != .In && o != .NotIn) && okE kd nm l && okE kd nm r
 | .conj l r _ => okT kd nm l && okT kd nm r
 | .disj l r _ => okT kd nm l && okT kd nm r
 | .not c _ => okT kd nm c
 | .val e => Ti e && okE kd nm e
noncomputable def L7 (kd : Str → Option NameKind) (nm : List Str) : Src → Bool
 | .range1 e _ _ => okB kd "range" && okE kd nm e
 | .range2 a b _ _ => okB kd "range" && okE kd nm a && okE kd nm b
 | .range3 a b c _ _ => okB kd "range" && okE kd nm a && okE kd nm b && okE kd nm c
 | .lst e => okE kd nm e
 | .enum e _ _ => okB kd "enumerate" && okE kd nm e
 | .zip a b _ _ => okB kd "zip" && okE kd nm a && okE kd nm b
end
structure KF (K : Frag) : Prop where
 glo : ∀ x a, GT.lookup x = some a → nsIn K mainGlobals x = some (some (.ref a))
 bfs : ∀ b : Bif, nsIn K mainGlobals b.name = some none
 rng : nsIn K mainGlobals "range" = some none
 enu : nsIn K mainGlobals "enumerate" = some none
 zip : nsIn K mainGlobals "zip" = some none
 meth : ∀ x f, MT.lookup x = some f → findIn K (.ref LAT) x = some (some (.ref f)) ∧ typeIn K (.ref f) = some (.type "function")
 ga : findIn K (.ref LAT) "__getattribute__" = some (some (.builtin "object.__getattribute__"))
 gat : findIn K (.ref LAT) "__getattr__" = some none
 hd : hasDictIn K LAT = true
 fld : ∀ k, k < 8 → findIn K (.ref LAT) (Ac Ad k) = some none
 setA : findIn K (.ref LAT) "__setattr__" = some (some (.builtin "object.__setattr__"))
 over : plainOver K LAT = true
structure Gd (K : Frag) (h0 : Heap) (mg mb : Str → Option Value) : Prop where
 X : K.In h0
 g : h0.Ns mainGlobals mg
 b : h0.Ns builtinsNs mb
 lim : h0.NoLimit
 boot : ∀ x : Str, x ≠ "__name__" → mb x = bootBuiltins x
 kf : KF K
noncomputable def Am (prog : Program) (w : World) (K : Frag) (h0 : Heap) (n : Nat) (f : V) (vs : List V) (σ : Aa) (Q : V → Aa → Prop) : Prop :=
 ∃ a, f = .ref a ∧ keepIn K (.ref a) = true ∧ ∀ (A : Around) (s : Shared) (vals : List Value), Cy A n → Ok h0 σ s → vals.map Af = vs →
  codeAny (model prog w) A (.call (.ref a) ⟨vals, []⟩) (fun r s' => ∃ v σ', r = .ok (.ret v) ∧ Q (Af v) σ' ∧ Ah h0 Aj σ s σ' s') s
section
variable {h0 : Heap} {prog : Program} {w : World} {K : Frag} {mg mb : Str → Option Value} (G : Gd K h0 mg mb) {n : Nat}
noncomputable def Az (prog : Program) (w : World) (K : Frag) (h0 : Heap) (n : Nat) (e : Ex) : Prop :=
 ∀ {env : Env} {nm : List Str} {ρ : Loc} {σ : Aa} {Q : V → Aa → Prop} {s : Shared} {A : Around} {E : Value → Shared → Prop}, okE env.kindOf nm e = true → Ax h0 env → Cy A n → Ok h0 σ s → Fm env nm ρ σ s.heap →
  wpE (Bs h0) (Am prog w K h0 n) e ρ σ Q → wpAny (model prog w) A (eval (trE nm e) env) (Rs h0 Q σ s) E s
noncomputable def Gz (prog : Program) (w : World) (K : Frag) (h0 : Heap) (n : Nat) (es : Exs) : Prop :=
 ∀ {env : Env} {nm : List Str} {ρ : Loc} {σ : Aa} {Q : List V → Aa → Prop} {s : Shared} {A : Around} {E : Value → Shared → Prop} {pos : Pos}, Le env.kindOf nm es = true → Ax h0 env → Cy A n → Ok h0 σ s → Fm env nm ρ σ s.heap →
  Hb (Bs h0) (Am prog w K h0 n) es ρ σ Q → wpAny (model prog w) A (spliced (backTo pos (starEach (Bt nm es) env))) (fun vs s' => ∃ σ', vs.length = Bk es ∧ Q (vs.map Af) σ' ∧ Ah h0 Aj σ s σ' s') E s
noncomputable def H0 (prog : Program) (w : World) (K : Frag) (h0 : Heap) (n : Nat) (c : Tst) : Prop :=
 ∀ {env : Env} {nm : List Str} {ρ : Loc} {σ : Aa} {Q : Bool → Aa → Prop} {s : Shared} {A : Around} {E : Value → Shared → Prop}, okT env.kindOf nm c = true → Ax h0 env → Cy A n → Ok h0 σ s → Fm env nm ρ σ s.heap →
  wpT (Bs h0) (Am prog w K h0 n) c ρ σ Q → wpAny (model prog w) A (isTrue (trT nm c) env (eval (trT nm c) env)) (Rb h0 Q σ s) E s
theorem eZ {o : Option V} {P : V → Prop} (h : match o with | some v => P v | none => False) : ∃ v, o = some v ∧ P v := by
 cases o with
 | none => exact h.elim
 | some v => exact iEA v rfl h
theorem aZ {v : V} {P : V → Prop} : ∀ {o : Option V}, o = some v → P v → (match o with | some v => P v | none => False)
 | _, rfl, h => h
theorem Cj {nm : List Str} {i : Nat} (h : i < nm.length) : nm[i]? = some (Ac nm i) := by
 unfold Ac; rw [List.getD_eq_getElem?_getD, List.getElem?_eq_getElem h]; rfl
theorem X1 (i : Nat) (p : Pos) : Az prog w K h0 n (.loc i p) := by
 intro env nm ρ σ Q s A E ok eo R k F h
 replace ok := bd3 ok
 simp only [Bool.or_eq_true, decide_eq_true_eq, beq_iff_eq, bne_iff_ne, ne_eq] at ok
 (refine zA ok fun zq0 hd => ?_; have hi := zq0.1; have hk := zq0.2)
 have hd' : (Ac nm i == ("__debug__" : Str)) = false := by simpa using hd
 refine zEA (eZ (o := ρ.getD i none) (P := fun v => Q v σ) h) fun v hv h => ?_
 rcases hk with hk | hk
 ·refine zEA F.ns fun m hn hm => ?_
  refine zEA (hm i _ v (Cj hi) hk hv) fun u e1 e2 => ?_
  exact wpAny_Name (wpAny_loadName_local eo.kind hk hn e1 (Rs.now k (e2 ▸ h))) hd'
 ·refine Bv (F.cell i _ v (Cj hi) hk hv) fun c u e1 e2 e3 => ?_
  exact wpAny_Name (wpAny_loadName_cell eo.kind hk e1 e2 (Rs.now k (e3 ▸ h))) hd'
include G in
theorem X4 (x : Str) (v : V) (p : Pos) : Az prog w K h0 n (.glo x v p) := by
 intro env nm ρ σ Q s A E ok eo R k F h
 replace ok := bd3 ok
 simp only [okB, beq_iff_eq, bne_iff_ne, ne_eq] at ok
 (have zq0 := ok.1; have hv := ok.2; have hk := zq0.1; have hd := zq0.2)
 have hd' : (x == ("__debug__" : Str)) = false := by simpa using hd
 cases v with
 | ref a =>
  simp only [beq_iff_eq] at hv
  refine Name_function_global eo.kind hk (loadGlobal_global (by rw [eo.glob]; exact G.g.keeps k.base) (mg_of G.X G.g (G.kf.glo x a hv)) (Rs.now k ?_)) hd'
  exact h
 | _ => cases hv
theorem Xx (i : Int) (p : Pos) : Az prog w K h0 n (.num i p) := by
 intro env nm ρ σ Q s A E ok eo R k F h
 exact wpAny_Constant_int (Rs.here k h)
theorem X6 (b : Bool) (p : Pos) : Az prog w K h0 n (.boo b p) := by
 intro env nm ρ σ Q s A E ok eo R k F h
 show wpAny _ _ (constValue env (.bool b)) _ _ _
 exact wpAny_pure (Rs.now k h)
theorem X7 (o : Operator) {l r : Ex} (hl : Az prog w K h0 n l) (hr : Az prog w K h0 n r) (p : Pos) : Az prog w K h0 n (.bin o l r p) := by
 intro env nm ρ σ Q s A E ok eo R k F h
 replace ok := bd2 ok
 refine wpAny_BinOp (wpAny_mono (hl ok.1 eo R k F h) (fun a s1 => yEA fun σ1 h1 p1 => ?_) fun _ _ e => e)
 have k1 := k.post0 p1
 refine wpAny_mono (hr ok.2 eo R k1 (F.post p1) h1) (fun b s2 => yEA fun σ2 h2 p2 => ?_) fun _ _ e => e
 exact up (p1.trans p2) (T9 (k1.post0 p2) h2)
theorem Xz {e : Ex} (he : Az prog w K h0 n e) (p : Pos) : Az prog w K h0 n (.neg e p) := by
 intro env nm ρ σ Q s A E ok eo R k F h
 refine UnaryOp_ (wpAny_mono (he ok eo R k F h) (fun a s1 => yEA fun σ1 h1 p1 => ?_) fun _ _ e => e)
 exact up p1 (Tq (k.post0 p1) h1)
theorem Xy {e : Ex} (he : Az prog w K h0 n e) (p : Pos) : Az prog w K h0 n (.not e p) := by
 intro env nm ρ σ Q s A E ok eo R k F h
 refine UnaryOp_ (wpAny_mono (he ok eo R k F h) (fun a s1 => yEA fun σ1 h1 p1 => ?_) fun _ _ e => e)
 refine not_of (wpAny_mono (Fq (Q := fun t σ => Q (.bool (!t)) σ) (k.post0 p1) h1) (fun t s2 => yEA fun σ2 h2 p2 => ?_) fun _ _ e => e)
 exact iEA σ2 h2 (p1.trans p2)
theorem Vl {l r : Ex} (hl : Az prog w K h0 n l) (hr : Az prog w K h0 n r) (p : Pos) : Az prog w K h0 n (.conj l r p) := by
 intro env nm ρ σ Q s A E ok eo R k F h
 replace ok := bd2 ok
 refine BoolOp_and (wpAny_mono (hl ok.1 eo R k F h) (fun a s1 => yEA fun σ1 h1 p1 => ?_) fun _ _ e => e)
 have k1 := k.post0 p1
 refine wpAny_mono (Fq (Q := fun t σ => (t = true → wpE (Bs h0) (Am prog w K h0 n) r ρ σ Q) ∧ (t = false → Q (Af a) σ)) k1 h1) (fun t s2 => yEA fun σ2 h2 p2 => ?_) fun _ _ e => e
 cases t with
 | true =>
  rw [if_pos rfl]
  exact BoolOp_one (up (p1.trans p2) (hr ok.2 eo R (k1.post0 p2) ((F.post p1).post p2) (h2.1 rfl)))
 | false =>
  rw [if_neg (by decide)]
  exact iEA σ2 (h2.2 rfl) (p1.trans p2)
theorem Mh {o : CmpOp} {nm : List Str} : ∀ (r : Ex), behindInMarks o (trE nm r) = false := by
 intro r; cases r <;> rfl
theorem X5 (o : CmpOp) {l r : Ex} (hl : Az prog w K h0 n l) (hr : Az prog w K h0 n r) (p : Pos) : Az prog w K h0 n (.cmp o l r p) := by
 intro env nm ρ σ Q s A E ok eo R k F h
 replace ok := bd2 ok
 refine wpAny_Compare1 (wpAny_mono (hl ok.1 eo R k F h) (fun a s1 => yEA fun σ1 h1 p1 => ?_) fun _ _ e => e) (Mh r)
 have k1 := k.post0 p1
 refine wpAny_mono (hr ok.2 eo R k1 (F.post p1) h1) (fun b s2 => yEA fun σ2 h2 p2 => ?_) fun _ _ e => e
 exact up (p1.trans p2) (Mf (k1.post0 p2) R h2)
theorem X2 {c : Tst} {a b : Ex} (hc : H0 prog w K h0 n c) (ha : Az prog w K h0 n a) (hb : Az prog w K h0 n b) (p : Pos) : Az prog w K h0 n (.ite c a b p) := by
 intro env nm ρ σ Q s A E ok eo R k F h
 replace ok := bd3 ok
 refine IfExp_ (wpAny_mono (hc ok.1.1 eo R k F h) (fun t s1 => yEA fun σ1 h1 p1 => ?_) fun _ _ e => e)
 have k1 := k.post0 p1
 cases t with
 | true => rw [if_pos rfl]; exact up p1 (ha ok.1.2 eo R k1 (F.post p1) (h1.1 rfl))
 | false => rw [if_neg (by decide)]; exact up p1 (hb ok.2 eo R k1 (F.post p1) (h1.2 rfl))
theorem Po {value slice : Expr} {a b : Value} {σ : Aa} {s : Shared} {Q : V → Aa → Prop} {A : Around} {E : Value → Shared → Prop} (k : Ok h0 σ s) (hs : subscripted slice false a b = operate [a, b] (getItem a b)) (h : Wg (Af a) (Af b) σ fun v => Q v σ) :
  wpAny (model prog w) A (subscriptTail value slice a b) (Rs h0 Q σ s) E s := by
 have g := Lm (prog := prog) (w := w) (A := A) (E := E) k h
 unfold Wg at h
 split at h
 ·rename_i x i e1 e2
  (refine It h fun xs j v zq0 _ => ?_; refine zA zq0 fun hx _ => ?_)
  rw [Av e1] at g hs ⊢
  rcases hx with hx | hx
  ·(refine zEA (k.sat _ _ hx) fun xa zq0 _ => ?_; refine zE zq0 fun m gg => ?_)
   exact tail_any (T := "list") (iEA _ gg rfl) slot_list_getitem.lookup g hs
  ·refine Ei (k.sat _ _ hx) fun xa m gg _ => ?_
   exact tail_any (T := "tuple") (iEA _ gg rfl) slot_tuple_getitem.lookup g hs
 ·exact h.elim
theorem Sr {nm : List Str} (i : Ex) (a b : Value) : subscripted (trE nm i) false a b = operate [a, b] (getItem a b) := by cases i <;> rfl
theorem X3 {e i : Ex} (he : Az prog w K h0 n e) (hi : Az prog w K h0 n i) (p : Pos) : Az prog w K h0 n (.idx e i p) := by
 intro env nm ρ σ Q s A E ok eo R k F h
 replace ok := bd2 ok
 refine Subscript_ (wpAny_mono (he ok.1 eo R k F h) (fun a s1 => yEA fun σ1 h1 p1 => ?_) fun _ _ e => e)
 have k1 := k.post0 p1
 refine wpAny_mono (hi ok.2 eo R k1 (F.post p1) h1) (fun b s2 => yEA fun σ2 h2 p2 => ?_) fun _ _ e => e
 exact up (p1.trans p2) (Po (k1.post0 p2) (Sr i a b) h2)
theorem Gf {env : Env} {value : Expr} {lower upper : Option Expr} {p pos : Pos} {Q : Value → Shared → Prop} {s : Shared} {A : Around} {E : Value → Shared → Prop}
  (h : wpAny (model prog w) A (eval value env) (fun o s₁ => wpAny (model prog w) A (evalPart lower env) (fun vl s₂ => wpAny (model prog w) A (evalPart upper env) (fun vu s₃ =>
   ∃ l items lo hi, o = .ref l ∧ s₃.heap.IsList l items ∧ items.size ≤ sizeLine ∧ IsPart vl lo ∧ IsPart vu hi ∧
    Q (.ref (s₃.heap.objs.size + 1)) { s₃ with heap := (s₃.heap.push { cls := .type "slice", data := .fields #[vl, vu, .none] }).push { cls := .type "list", data := .seq (slicePick items lo hi none) } }) E s₂) E s₁) E s) :
  wpAny (model prog w) A (eval (.Subscript value (.Slice lower upper none p) pos) env) Q E s := by
 refine Subscript_ (wpAny_mono h (fun o s₁ h₁ => wpAny_Slice (wpAny_mono h₁ (fun vl s₂ h₂ => wpAny_mono h₂ (fun vu s₃ h₃ => ?_) fun _ _ e => e) fun _ _ e => e)) fun _ _ e => e)
 (refine Z3 h₃ fun l items lo hi zq0 => ?_; refine G0 zq0 fun zq1 hl hsz pl pu hQ => ?_; subst zq1)
 rw [evalPart_none]
 refine wpAny_pure (tail_any (T := "list") (hl.push _).typeIs slot_list_getitem.lookup ?_ (ops := [.ref s₃.heap.objs.size, .ref l]) rfl)
 refine wpAny_getItem_list_slice (hl.push _) (Heap.IsSliceOf.new ..) pl pu .none (by simp) ?_ hsz
 rw [Heap.size_push]
 exact hQ
theorem Gg {a vl vu : Value} {lo hi : Option Int} {σ : Aa} {s : Shared} {Q : V → Aa → Prop} (k : Ok h0 σ s) (pl : IsPart vl lo) (pu : IsPart vu hi) (h : slW (Bs h0) (Af a) lo hi σ Q) :
  ∃ l items, a = .ref l ∧ s.heap.IsList l items ∧ items.size ≤ sizeLine ∧
    Rs h0 Q σ s (.ref (s.heap.objs.size + 1)) { s with heap := (s.heap.push { cls := .type "slice", data := .fields #[vl, vu, .none] }).push { cls := .type "list", data := .seq (slicePick items lo hi none) } } := by
 unfold slW at h
 split at h
 ·rename_i x e
  refine zEA h fun xs hx h => ?_
  (refine A6 (k.sat _ _ hx) fun xa g zq0 hl => ?_; subst zq0)
  have hl' : (xa.toList.map Af).length ≤ 16777216 := hl
  have hsz : xa.size = (xa.toList.map Af).length := by simp
  refine Br x xa (Av e) g.isList (by rw [sizeLine_eq]; exact ln 0x222210000007fb0010210000007fb102 [xa.size, (List.map Af xa.toList).length] hl' hsz) ?_
  have j := Ah.junk (own := Aj) (σ := σ) (tk := s.toks) k (fun b ob e => Heap.get?_push_of_some ({ cls := .type "slice", data := .fields #[vl, vu, .none] } : Obj) e)
  have r := Rs.list (Q := Q) (k.post0 j) (xs := slicePick xa lo hi none) (by have := slicePick_size_le xa lo hi none; show _ ≤ 16777216; exact ln 0x2222210000007fb0020012210000007fb103 [(slicePick xa lo hi none).size, (List.map Af xa.toList).length, xa.size] hl' hsz this) (by rw [bV]; exact h)
  have r' := r.up j
  rw [show ({ s with heap := s.heap.push { cls := .type "slice", data := .fields #[vl, vu, .none] } } : Shared).heap.objs.size = s.heap.objs.size + 1 from Heap.size_push _ _] at r'
  exact r'
 ·exact h.elim
theorem Sv {e : Ex} (he : Az prog w K h0 n e) (q p : Pos) : Az prog w K h0 n (.slAll e q p) := by
 intro env nm ρ σ Q s A E ok eo R k F h
 refine Gf (wpAny_mono (he ok eo R k F h) (fun a s1 => yEA fun σ1 h1 p1 => ?_) fun _ _ e => e)
 refine evalPart_none_step (evalPart_none_step ?_)
 refine Be (Gg (k.post0 p1) .none .none h1) fun l its e1 e2 e3 r => ?_
 exact B5 l its none none e1 e2 e3 .none .none (r.up p1)
theorem Ve {e u : Ex} (he : Az prog w K h0 n e) (hu : Az prog w K h0 n u) (q p : Pos) : Az prog w K h0 n (.slTo e u q p) := by
 intro env nm ρ σ Q s A E ok eo R k F h
 replace ok := bd2 ok
 refine Gf (wpAny_mono (he ok.1 eo R k F h) (fun a s1 => yEA fun σ1 h1 p1 => ?_) fun _ _ e => e)
 have k1 := k.post0 p1
 refine evalPart_none_step (evalPart_some_step (wpAny_mono (hu ok.2 eo R k1 (F.post p1) h1) (fun b s2 => yEA fun σ2 h2 p2 => ?_) fun _ _ e => e))
 replace h2 := h2
 dsimp only at h2
 unfold Fo at h2
 split at h2
 ·rename_i i ei
  (refine zE (Al ei) fun t zq0 => ?_; subst zq0)
  refine Be (Gg (k1.post0 p2) .none (.int i t) h2) fun l its e1 e2 e3 r => ?_
  exact B5 l its none (some i) e1 e2 e3 .none (.int i t) (r.up (p1.trans p2))
 ·exact h2.elim
theorem Pr {e u : Ex} (he : Az prog w K h0 n e) (hu : Az prog w K h0 n u) (q p : Pos) : Az prog w K h0 n (.slFrom e u q p) := by
 intro env nm ρ σ Q s A E ok eo R k F h
 replace ok := bd2 ok
 refine Gf (wpAny_mono (he ok.1 eo R k F h) (fun a s1 => yEA fun σ1 h1 p1 => ?_) fun _ _ e => e)
 have k1 := k.post0 p1
 refine evalPart_some_step (wpAny_mono (hu ok.2 eo R k1 (F.post p1) h1) (fun b s2 => yEA fun σ2 h2 p2 => ?_) fun _ _ e => e)
 replace h2 := h2
 dsimp only at h2
 unfold Fo at h2
 split at h2
 ·rename_i i ei
  (refine zE (Al ei) fun t zq0 => ?_; subst zq0)
  refine Be (Gg (k1.post0 p2) (.int i t) .none h2) fun l its e1 e2 e3 r => ?_
  exact evalPart_none_step (B5 l its (some i) none e1 e2 e3 (.int i t) .none (r.up (p1.trans p2)))
 ·exact h2.elim
theorem Ps {e l u : Ex} (he : Az prog w K h0 n e) (hl : Az prog w K h0 n l) (hu : Az prog w K h0 n u) (q p : Pos) : Az prog w K h0 n (.slBoth e l u q p) := by
 intro env nm ρ σ Q s A E ok eo R k F h
 replace ok := bd3 ok
 refine Gf (wpAny_mono (he ok.1.1 eo R k F h) (fun a s1 => yEA fun σ1 h1 p1 => ?_) fun _ _ e => e)
 have k1 := k.post0 p1
 refine evalPart_some_step (wpAny_mono (hl ok.1.2 eo R k1 (F.post p1) h1) (fun b s2 => yEA fun σ2 h2 p2 => ?_) fun _ _ e => e)
 have k2 := k1.post0 p2
 replace h2 := h2
 dsimp only at h2
 unfold Fo at h2
 split at h2
 ·rename_i i ei
  (refine zE (Al ei) fun t zq0 => ?_; subst zq0)
  refine evalPart_some_step (wpAny_mono (hu ok.2 eo R k2 ((F.post p1).post p2) h2) (fun c s3 => yEA fun σ3 h3 p3 => ?_) fun _ _ e => e)
  dsimp only at h3
  split at h3
  ·rename_i j ej
   (refine zE (Al ej) fun t' zq0 => ?_; subst zq0)
   refine Be (Gg (k2.post0 p3) (.int i t) (.int j t') h3) fun l its e1 e2 e3 r => ?_
   exact B5 l its (some i) (some j) e1 e2 e3 (.int i t) (.int j t') (r.up ((p1.trans p2).trans p3))
  ·exact h3.elim
 ·exact h2.elim
theorem B8 {nm : List Str} {env : Env} {l : List Expr} : ∀ (e : Ex), starEach (trE nm e :: l) env = (false, eval (trE nm e) env) :: starEach l env := by
 intro e; cases e <;> rfl
theorem D3 {nm : List Str} {env : Env} {pos : Pos} : ∀ (es : Exs), (backTo pos (starEach (Bt nm es) env)).any (·.1) = false
 | .nil => rfl
 | .cons e r => by
  have := D3 (nm := nm) (env := env) (pos := pos) r
  show (backTo pos (starEach (trE nm e :: Bt nm r) env)).any (·.1) = false
  rw [B8]
  simpa [backTo] using this
theorem Hc {nm : List Str} : ∀ (es : Exs), (Bt nm es).length = Bk es
 | .nil => rfl
 | .cons _ r => by rw [Bt, List.length_cons, Hc r, Bk]
theorem Vc : Gz prog w K h0 n .nil := by
 intro env nm ρ σ Q s A E pos ok eo R k F h
 exact spliced_none (Ay σ rfl h (.refl k))
theorem Su {e : Ex} {r : Exs} (he : Az prog w K h0 n e) (hr : Gz prog w K h0 n r) : Gz prog w K h0 n (.cons e r) := by
 intro env nm ρ σ Q s A E pos ok eo R k F h
 replace ok := bd2 ok
 refine spliced_more (wpAny_mono (he ok.1 eo R k F h) (fun a s1 => yEA fun σ1 h1 p1 => ?_) fun _ _ e => e) (B8 e)
 have k1 := k.post0 p1
 refine wpAny_mono (hr ok.2 eo R k1 (F.post p1) h1) (fun vs s2 => Mm fun σ2 hl h2 p2 => ?_) fun _ _ e => e
 exact ⟨σ2, by rw [List.length_cons, hl, Bk], h2, p1.trans p2⟩
theorem Xv {es : Exs} (he : Gz prog w K h0 n es) (p : Pos) : Az prog w K h0 n (.tup es p) := by
 intro env nm ρ σ Q s A E ok eo R k F h
 replace ok := bd2 ok
 simp only [decide_eq_true_eq] at ok
 refine Tuple_ (wpAny_mono (he ok.2 eo R k F h) (fun vs s1 => Mm fun σ1 hl h1 p1 => ?_) fun _ _ e => e)
 refine up p1 (wpAny_newTuple (Rs.tup (k.post0 p1) (by rw [List.size_toArray]; show _ ≤ 16777216; exact ln 0x222210000007fb00102142fb112 [vs.length, Bk es] ok.1 hl) (by simpa using h1)) (by rw [sizeLine_eq]; exact ln 0x222210000007fb00102142fb112 [vs.length, Bk es] ok.1 hl))
theorem X0 {es : Exs} (he : Gz prog w K h0 n es) (p : Pos) : Az prog w K h0 n (.lst es p) := by
 intro env nm ρ σ Q s A E ok eo R k F h
 replace ok := bd2 ok
 simp only [decide_eq_true_eq] at ok
 refine List_ (wpAny_mono (he ok.2 eo R k F h) (fun vs s1 => Mm fun σ1 hl h1 p1 => ?_) fun _ _ e => e)
 refine up p1 (wpAny_newList (Rs.list (k.post0 p1) (by rw [List.size_toArray]; show _ ≤ 16777216; exact ln 0x222210000007fb00102142fb112 [vs.length, Bk es] ok.1 hl) (by simpa using h1)) (by rw [sizeLine_eq]; exact ln 0x222210000007fb00102142fb112 [vs.length, Bk es] ok.1 hl))
theorem D6 {i j : Nat} {t : Tok} (hi : i < 8) (hj : j < 8) : (Value.str (Ac Ad i) t).isStr (Ac Ad j) = decide (i = j) := by
 have : ∀ i : Fin 8, ∀ j : Fin 8, (Ac Ad i.val == Ac Ad j.val) = decide (i.val = j.val) := by decide +kernel
 exact this ⟨i, hi⟩ ⟨j, hj⟩
theorem Sh {α : Type} {p : α → Bool} : ∀ {l : List α} {k : Nat} {e : α}, l[k]? = some e → p e = true → (∀ j e', j < k → l[j]? = some e' → p e' = false) → l.find? p = some e
 | [], _, _, h, _, _ => by simp at h
 | x :: l, 0, e, h, hp, _ => by
  simp only [List.getElem?_cons_zero, Option.some.injEq] at h; subst h
  rw [List.find?_cons, hp]
 | x :: l, k + 1, e, h, hp, hn => by
  rw [List.find?_cons, hn 0 x (Nat.succ_pos _) rfl]
  exact Sh (l := l) (k := k) (by simpa using h) hp fun j e' hj he => hn (j + 1) e' (Nat.succ_lt_succ hj) (by simpa using he)
theorem Ox {α : Type} {p : α → Bool} : ∀ {l : List α}, (∀ (j : Nat) e', l[j]? = some e' → p e' = false) → l.find? p = none
 | [], _ => rfl
 | x :: l, hn => by
  rw [List.find?_cons, hn 0 x rfl]
  exact Ox fun j e' he => hn (j + 1) e' (by simpa using he)
theorem Qv {es : List DictEntry} {vs : List V} {k : Nat} {v : V} (f : Cr es vs) (h8 : vs.length ≤ 8) (hk : vs[k]? = some v) : ∃ u, getL (Ac Ad k) es = some (some u) ∧ Af u = v := by
 have hlt : k < vs.length := by
  rcases Nat.lt_or_ge k vs.length with q | q
  ·exact q
  ·rw [List.getElem?_eq_none q] at hk; cases hk
 have hle : k < es.length := by rw [f.1]; exact hlt
 obtain ⟨⟨t, ek⟩, ev⟩ := f.2 k es[k] (List.getElem?_eq_getElem hle)
 refine iEA (es[k].val) ?_ (by rw [hk] at ev; cases ev; rfl)
 unfold getL
 rw [Sh (p := fun x => x.key.isStr (Ac Ad k)) (k := k) (List.getElem?_eq_getElem hle) (by rw [ek, D6 (o22 h8 hlt) (o22 h8 hlt)]; simp) fun j e' hj he => ?_]
 obtain ⟨⟨t', ek'⟩, _⟩ := f.2 j e' he
 rw [ek', D6 (gI h8 hlt hj) (o22 h8 hlt)]; simp; exact gH hj
theorem Ma {es : List DictEntry} {vs : List V} {x : Str} (f : Cr es vs) (h8 : vs.length ≤ 8) (hx : ∀ i, i < vs.length → Ac Ad i ≠ x) : getL x es = some none := by
 unfold getL
 have nf : es.find? (fun e => e.key.isStr x) = none := Ox fun j e' he => ?_
 rw [nf]
 ·have : es.any (·.refKey) = false := by
   rw [List.any_eq_false]
   intro e he
   obtain ⟨j, hj, rfl⟩ := List.mem_iff_getElem.mp he
   obtain ⟨⟨t, ek⟩, _⟩ := f.2 j es[j] (List.getElem?_eq_getElem hj)
   unfold DictEntry.refKey; rw [ek]; simp
  simp only [this, Bool.false_eq_true, if_false]
 ·obtain ⟨⟨t', ek'⟩, ev⟩ := f.2 j e' he
  have hj : j < vs.length := by
   rcases Nat.lt_or_ge j vs.length with q | q
   ·exact q
   ·rw [List.getElem?_eq_none q] at ev; cases ev
  rw [ek']
  show (Ac Ad j == x) = false
  exact beq_eq_false_iff_ne.mpr (hx j hj)
theorem Jp {σ : Aa} {s : Shared} (k : Ok h0 σ s) {x dx : Addr} {vs : List V} (hx : σ x = some (.inst dx)) (hd : σ dx = some (.dict vs)) : ∃ es n, Cr es vs ∧ vs.length ≤ 8 ∧ s.heap.get? dx = some (dictOf es n) ∧ s.heap.get? x = some (instObj LAT dx) ∧
  PySem.W.InstAt s.heap x (instObj LAT dx) LAT (some (dictOf es n)) := by
 have gx := k.sat _ _ hx
 obtain ⟨es, n, gd, f, h8⟩ := k.sat _ _ hd
 exact Fa es n f h8 gd gx ⟨gx, rfl, rfl, gd⟩
include G in
theorem Rc {a : Value} {kx : Nat} {σ : Aa} {s : Shared} {Q : V → Aa → Prop} {A : Around} {E : Value → Shared → Prop} (k : Ok h0 σ s) (hk : kx < 8) (h : W9 (Af a) kx σ fun v => Q v σ) {b : Bool} :
  wpAny (model prog w) A (getAttr a (Ac Ad kx) b) (Rs h0 Q σ s) E s := by
 unfold W9 at h
 split at h
 ·rename_i x e
  rw [Av e]
  obtain ⟨dx, vs, v, ⟨hx, hd, hv, hp⟩, h⟩ := h
  obtain ⟨es, m, f, h8, gd, gx, I⟩ := Jp k hx hd
  obtain ⟨u, hu, eu⟩ := Qv f h8 hv
  have X := G.X.keeps k.base
  have hh : handedIn u = true := by subst eu; cases u <;> first | rfl | exact hp.elim
  have fo : findObj K LAT (some (dictOf es m)) (Ac Ad kx) = some (.value u) := findObj_own G.kf.hd (G.kf.fld kx hk) rfl (by rw [lookIn_dict]; exact hu)
  exact get_value X I G.kf.ga fo hh (Rs.here k (eu ▸ h))
 ·exact h.elim
theorem So {nm : List Str} {env : Env} {attr : Str} {whole : Sem Value} (e : Ex) (h : Ie e = true) : attributeBase (trE nm e) attr env whole = whole := by
 cases e <;> first | rfl | (exfalso; revert h; decide) | cases h
include G in
theorem Vq {e : Ex} (he : Az prog w K h0 n e) (kx : Nat) (p : Pos) : Az prog w K h0 n (.attr e kx p) := by
 intro env nm ρ σ Q s A E ok eo R k F h
 replace ok := bd3 ok
 show wpAny _ _ (eval (.Attribute (trE nm e) (Ac Ad kx) p) env) _ _ _
 rw [arm_eval_Attribute, So e ok.1.1]
 refine wpAny_bind (wpAny_mono (he ok.2 eo R k F h) (fun a s1 => yEA fun σ1 h1 p1 => ?_) fun _ _ e => e)
 refine wpAny_bind (wpAny_standAt (wpAny_bind (wpAny_holding (wpAny_mono (Rc G (k.post0 p1) (of_decide_eq_true ok.1.2) h1) (fun r s2 r2 => ?_) fun _ _ e => e))))
 exact wpAny_bind (wpAny_letTemporaryGo (wpAny_pure (r2.up p1)))
theorem Dg {M : Model} {A : Around} {E : Value → Shared → Prop} {s : Shared} {f : Value} {Q : Args → Shared → Prop} (h : wpAny M A (spliced []) (fun vs s' => Q ⟨vs, []⟩ s') E s) : wpAny M A (evalArgs f true [] []) Q E s := by
 unfold evalArgs
 show wpAny M A (spliced [] >>= _) Q E s
 refine wpAny_bind (wpAny_mono h (fun vs s1 h1 => ?_) fun _ _ e => e)
 refine wpAny_bind (wpAny_pure ?_)
 refine wpAny_holding ?_
 exact wpAny_bind (wpAny_pure (wpAny_bind (wpAny_pure (wpAny_pure h1))))
theorem L8 {M : Model} {A : Around} {E : Value → Shared → Prop} {nm : List Str} {env : Env} {pos : Pos} {f : Value} {first : List Value} {as : Exs} {Q : Value → Shared → Prop} {s : Shared} {P : Heap → Prop}
  (hk : ∀ h, P h → ∃ k, (k = Keeper.frame ∨ k = Keeper.machine ∨ k = Keeper.boundFrame) ∧ Looks M h (keeperOf f) k)
  (h : wpAny M A (spliced (backTo pos (starEach (Bt nm as) env))) (fun vs s₁ => P s₁.heap ∧ wpAny M A (call f (first ++ vs)) Q E s₁) E s) :
  wpAny M A (callWith pos f first (backTo pos (starEach (Bt nm as) env)) []) Q E s := by
 refine callWith_of (P := P) (by rw [D3]; rfl) hk ?_
 cases as with
 | nil => exact Dg h
 | cons e r =>
  show wpAny M A (evalArgs f true (backTo pos (starEach (trE nm e :: Bt nm r) env)) []) _ E s
  have h' : wpAny M A (spliced (backTo pos (starEach (trE nm e :: Bt nm r) env))) (fun vs s₁ => P s₁.heap ∧ wpAny M A (call f (first ++ vs)) Q E s₁) E s := h
  rw [B8] at h' ⊢
  exact evalArgs_plain h'
theorem T0 {o : CmpOp} {a b : V} {σ : Aa} {Q Q' : Bool → Prop} (m : ∀ t, Q t → Q' t) (h : Q2 o a b σ Q) : Q2 o a b σ Q' := by
 cases a with
 | int a => cases b with
  | int b => cases o <;> first | exact m _ h | exact False.elim h
  | _ => exact False.elim h
 | bool a => cases b with
  | bool b => cases o <;> first | exact m _ h | exact False.elim h
  | _ => exact False.elim h
 | ref a => cases b with
  | ref b => cases o with
   | Eq => obtain ⟨xs, h1, h2⟩ := h; exact iEA xs h1 (m _ h2)
   | NotEq => obtain ⟨xs, ys, h1, h2⟩ := h; exact C5 xs ys h1 (m _ h2)
   | _ => exact False.elim h
  | _ => exact False.elim h
 | _ => exact False.elim h
theorem Wv {a : Addr} {vals : List Value} {σ : Aa} {s : Shared} {Q : V → Aa → Prop} {A : Around} {E : Value → Shared → Prop}
  (h : codeAny (model prog w) A (.call (.ref a) ⟨vals, []⟩) (fun r s' => ∃ v σ', r = .ok (.ret v) ∧ Q (Af v) σ' ∧ Ah h0 Aj σ s σ' s') s) :
  wpAny (model prog w) A (call (.ref a) vals) (Rs h0 Q σ s) E s :=
 wpAny_call (codeAny_mono h fun r s' ⟨v, σ', e, q, p⟩ => by subst e; exact ⟨σ', q, p⟩)
theorem Gv {nm : List Str} {env : Env} {pos : Pos} {first : List Value} {as : Exs} {ρ : Loc} (has : Gz prog w K h0 n as) {g : Value} {fs : List V} {σ : Aa} {Q : V → Aa → Prop} {s : Shared} {A : Around} {E : Value → Shared → Prop}
  (X : K.In h0) (ok : Le env.kindOf nm as = true) (eo : Ax h0 env) (R : Cy A n) (k : Ok h0 σ s) (F : Fm env nm ρ σ s.heap) (hf : first.map Af = fs)
  (h : Hb (Bs h0) (Am prog w K h0 n) as ρ σ fun vs σ => Am prog w K h0 n (Af g) (fs ++ vs) σ Q) :
  wpAny (model prog w) A (callWith pos g first (backTo pos (starEach (Bt nm as) env)) []) (Rs h0 Q σ s) E s := by
 refine L8 (P := fun h => K.In h ∧ ∃ a, g = .ref a ∧ keepIn K (.ref a) = true) (fun hp x => by obtain ⟨x, a, rfl, hk⟩ := x; exact keeps_K hk hp x)
  (wpAny_mono (has ok eo R k F h) (fun vs s1 => Mm fun σ1 _ h1 p1 => ?_) fun _ _ e => e)
 obtain ⟨b, eb, hk, hc⟩ := h1
 have eg := Av eb
 subst eg
 refine ⟨⟨X.keeps (k.post0 p1).base, iEA b rfl hk⟩, ?_⟩
 exact up p1 (Wv (hc A s1 (first ++ vs) R (k.post0 p1) (by rw [List.map_append, hf])))
include G in
theorem Vo {f : Ex} {as : Exs} (hf : Az prog w K h0 n f) (has : Gz prog w K h0 n as) (p : Pos) : Az prog w K h0 n (.call f as p) := by
 intro env nm ρ σ Q s A E ok eo R k F h
 replace ok := bd4 ok
 simp only [decide_eq_true_eq] at ok
 obtain ⟨⟨⟨o1, o2⟩, o3⟩, o4⟩ := ok
 have e0 : eval (.Call (trE nm f) (Bt nm as) [] p) env = (eval (trE nm f) env >>= fun g => callWith p g [] (backTo p (starEach (Bt nm as) env)) (backToKw p (keywordEach [] env))) := by
  cases f <;> first | rfl | cases o1
 show wpAny _ _ (eval (.Call (trE nm f) (Bt nm as) [] p) env) _ _ _
 rw [e0]
 refine wpAny_bind (wpAny_mono (hf o3 eo R k F h) (fun g s1 => yEA fun σ1 h1 p1 => ?_) fun _ _ e => e)
 exact up p1 (Gv has G.X o4 eo R (k.post0 p1) (F.post p1) rfl h1)
theorem Ef {env : Env} {nm : List Str} {p : Pos} (as : Exs) (hl : Bk as < 20) : methodCallForm ((Bt nm as).length + ([] : List Keyword).length) (backTo p (starEach (Bt nm as) env)) (backToKw p (keywordEach [] env)) = true := by
 unfold methodCallForm
 have h1 : (backTo p (starEach (Bt nm as) env)).all (fun x => !x.1) = true := by
  have := D3 (nm := nm) (env := env) (pos := p) as
  rw [List.any_eq_false] at this
  rw [List.all_eq_true]
  intro x hx
  simpa using this x hx
 rw [h1, Hc]
 rw [show backToKw p (keywordEach [] env) = [] by rfl]; simp; exact ln 0x2221e2fb01142fb011 [Bk as] hl
theorem Gi {env : Env} {nm : List Str} {e : Ex} {x : Str} {as : List Expr} {q p : Pos} {A : Around} {E : Value → Shared → Prop} {s : Shared} {Q : Value → Shared → Prop} (hb : Ie e = true) (hq : (q.endLine == p.line) = true)
  (hfm : methodCallForm (as.length + ([] : List Keyword).length) (backTo p (starEach as env)) (backToKw p (keywordEach [] env)) = true)
  (h : wpAny (model prog w) A (eval (trE nm e) env) (fun ov s₁ => ∀ pl, wpAny (model prog w) A (getMethod ov x pl) (fun r s₂ => wpAny (model prog w) A (callWith p r.1 r.2 (backTo p (starEach as env)) []) Q E s₂) E s₁) E s) :
  wpAny (model prog w) A (eval (.Call (.Attribute (trE nm e) x q) as [] p) env) Q E s := by
 rw [arm_eval_Call, So e hb]
 refine wpAny_bind (wpAny_mono h (fun ov s1 h1 => wpAny_bind (wpAny_standAt ?_)) fun _ _ e => e)
 have hpos : methodCallPos true (trE nm e) env q p = pure p := by unfold methodCallPos; simp [hq]
 unfold methodCall
 rw [hfm]
 refine wpAny_bind (wpAny_holding (wpAny_mono (h1 _) (fun r s2 h2 => ?_) fun _ _ e => e))
 exact wpAny_bind (wpAny_of_eq hpos h2)
theorem Oq : ∀ i, i < 8 → ∀ x f, MT.lookup x = some f → Ac Ad i ≠ x := by
 have a : ∀ i : Fin 8, MT.lookup (Ac Ad i.val) = none := by decide +kernel
 intro i hi x f h e
 have := a ⟨i, hi⟩
 rw [e, h] at this; cases this
include G in
theorem Vg {e : Ex} {as : Exs} (he : Az prog w K h0 n e) (has : Gz prog w K h0 n as) (x : Str) (f : Addr) (q p : Pos) : Az prog w K h0 n (.meth e x f as q p) := by
 intro env nm ρ σ Q s A E ok eo R k F h
 replace ok := bd6 ok
 simp only [decide_eq_true_eq, beq_iff_eq] at ok
 obtain ⟨⟨⟨⟨⟨o1, o2⟩, o3⟩, o4⟩, o5⟩, o6⟩ := ok
 refine Gi o1 (beq_iff_eq.mpr o4) (Ef as o3) (wpAny_mono (he o5 eo R k F h) (fun ov s1 => yEA fun σ1 h1 p1 pl => ?_) fun _ _ e => e)
 have k1 := k.post0 p1
 obtain ⟨hi, h1⟩ := h1
 unfold Qo at hi
 split at hi
 ·rename_i y ey
  obtain ⟨dx, vs, hx, hd⟩ := hi
  obtain ⟨es, m, fa, h8, gd, gx, I⟩ := Jp k1 hx hd
  rw [Av ey]
  obtain ⟨m1, m2⟩ := G.kf.meth x f o2
  refine method_fn (G.X.keeps k1.base) I G.kf.ga G.kf.gat m1 m2 (by show (lookIn x (dictOf es m)).map _ = _; rw [lookIn_dict, Ma fa h8 fun i hi => Oq i (o22 h8 hi) x f o2]; rfl) ?_
  refine up p1 (Gv (fs := [V.ref y]) has G.X o6 eo R k1 (F.post p1) rfl ?_)
  rw [ey] at h1
  exact h1
 ·exact hi.elim
theorem Yc {e a : Ex} (he : Az prog w K h0 n e) (ha : Az prog w K h0 n a) (q p : Pos) : Az prog w K h0 n (.app e a q p) := by
 intro env nm ρ σ Q s A E ok eo R k F h
 replace ok := bd4 ok
 simp only [beq_iff_eq] at ok
 obtain ⟨⟨⟨o1, o2⟩, o3⟩, o4⟩ := ok
 refine Gi o1 (beq_iff_eq.mpr o2) (Ef (nm := nm) (.cons a .nil) (by show 1 < 20; exact dF)) (wpAny_mono (he o3 eo R k F h) (fun ov s1 => yEA fun σ1 h1 p1 pl => ?_) fun _ _ e => e)
 have k1 := k.post0 p1
 obtain ⟨hi, h1⟩ := h1
 unfold Sb at hi
 split at hi
 ·rename_i y ey
  obtain ⟨xs, hx⟩ := hi
  obtain ⟨xa, ⟨m, g⟩, _⟩ := k1.sat _ _ hx
  rw [Av ey]
  refine getMethod_builtin (T := "list") ⟨_, g, rfl⟩ PySem.F.plainAttrs_list slot_list_append type_list_append (fun b eb => by cases eb; exact ⟨_, g, rfl⟩) ?_
  refine callWith_builtin (D3 (nm := nm) (.cons a .nil)) ?_
  show wpAny _ _ (evalArgs _ true (backTo p (starEach (trE nm a :: Bt nm .nil) env)) []) _ _ _
  rw [B8]
  refine evalArgs_plain (spliced_cons (wpAny_mono (ha o4 eo R k1 (F.post p1) h1) (fun v s2 => yEA fun σ2 h2 p2 => spliced_nil ?_) fun _ _ e => e))
  rw [ey] at h2
  exact up (p1.trans p2) (N2 (a := .ref y) (k1.post0 p2) h2)
 ·exact hi.elim
theorem Vp {e : Ex} (he : Az prog w K h0 n e) (q p : Pos) : Az prog w K h0 n (.bitl e q p) := by
 intro env nm ρ σ Q s A E ok eo R k F h
 replace ok := bd3 ok
 simp only [beq_iff_eq] at ok
 obtain ⟨⟨o1, o2⟩, o3⟩ := ok
 refine Gi o1 (beq_iff_eq.mpr o2) (Ef (nm := nm) .nil (by show 0 < 20; exact lz 0x22142fb0b10 [])) (wpAny_mono (he o3 eo R k F h) (fun ov s1 => yEA fun σ1 h1 p1 pl => ?_) fun _ _ e => e)
 dsimp only at h1
 unfold Fo at h1
 split at h1
 ·rename_i i ei
  obtain ⟨t, rfl⟩ := Al ei
  refine getMethod_int_bit_length ?_
  exact callWith_method0 (call_int_bit_length (iEA σ1 h1 p1.toksR))
 ·exact h1.elim
include G in
theorem W2 {b : Bif} {p : Pos} {env : Env} {Q : Value → Shared → Prop} {s : Shared} {A : Around} {E : Value → Shared → Prop} {σ : Aa} (eo : Ax h0 env) (k : Ok h0 σ s) (hk : env.kindOf b.name = some .globalImplicit) (h : Q (cC b) s) :
  wpAny (model prog w) A (eval (.Name b.name p) env) Q E s := by
 refine Name_function_global eo.kind hk (loadGlobal_builtin (by rw [eo.glob]; exact G.g.keeps k.base) (mg_none_of G.X G.g (G.kf.bfs b)) (by rw [eo.bi]; exact G.b.keeps k.base) ((G.boot _ ?_).trans ?_) h) ?_
 ·cases b <;> decide
 ·cases b <;> decide +kernel
 ·cases b <;> decide
include G in
theorem X8 {as : Exs} (has : Gz prog w K h0 n as) (b : Bif) (q p : Pos) : Az prog w K h0 n (.bif b as q p) := by
 intro env nm ρ σ Q s A E ok eo R k F h
 replace ok := bd3 ok
 simp only [okB, decide_eq_true_eq, beq_iff_eq] at ok
 obtain ⟨⟨o1, o2⟩, o3⟩ := ok
 show wpAny _ _ (eval (.Call (.Name b.name q) (Bt nm as) [] p) env) _ _ _
 refine wpAny_Call_Name_kw (W2 G eo k o1 ?_)
 have fin : ∀ vs s1, (∃ σ1, vs.length = Bk as ∧ (Zr b (vs.map Af) σ1 fun v => Q v σ1) ∧ Ah h0 Aj σ s σ1 s1) → wpAny (model prog w) A (call (cC b) vs) (Rs h0 Q σ s) E s1 := fun vs s1 => Mm fun σ1 _ h1 p1 =>
  up p1 (Ub (k.post0 p1) R h1)
 have hs := has (pos := p) (E := E) (A := A) o3 eo R k F h
 cases b <;> first
  | (
   refine callWith_builtin (D3 as) ?_
   cases as with
   | nil => exact Dg (wpAny_mono hs (fun vs s1 r => fin vs s1 r) fun _ _ e => e)
   | cons e r =>
    show wpAny _ _ (evalArgs _ true (backTo p (starEach (trE nm e :: Bt nm r) env)) []) _ _ _
    have hs' : wpAny (model prog w) A (spliced (backTo p (starEach (trE nm e :: Bt nm r) env))) _ E s := hs
    rw [B8] at hs' ⊢
    exact evalArgs_plain (wpAny_mono hs' (fun vs s1 r => fin vs s1 r) fun _ _ e => e))
  | (
   refine PyProof.Rows.callWith_type (D3 as) ?_
   cases as with
   | nil => exact Dg (wpAny_mono hs (fun vs s1 r => fin vs s1 r) fun _ _ e => e)
   | cons e r =>
    show wpAny _ _ (evalArgs _ true (backTo p (starEach (trE nm e :: Bt nm r) env)) []) _ _ _
    have hs' : wpAny (model prog w) A (spliced (backTo p (starEach (trE nm e :: Bt nm r) env))) _ E s := hs
    rw [B8] at hs' ⊢
    exact evalArgs_plain (wpAny_mono hs' (fun vs s1 r => fin vs s1 r) fun _ _ e => e))
theorem Vu (o : CmpOp) {l r : Ex} (hl : Az prog w K h0 n l) (hr : Az prog w K h0 n r) (p : Pos) : H0 prog w K h0 n (.cmp o l r p) := by
 intro env nm ρ σ Q s A E ok eo R k F h
 replace ok := bd3 ok
 refine wpAny_isTrue_Compare1 (wpAny_mono (hl ok.1.2 eo R k F h) (fun a s1 => yEA fun σ1 h1 p1 => ?_) fun _ _ e => e) (Mh r)
 have k1 := k.post0 p1
 refine wpAny_mono (hr ok.2 eo R k1 (F.post p1) h1) (fun b s2 => yEA fun σ2 h2 p2 => ?_) fun _ _ e => e
 have k2 := k1.post0 p2
 refine wpAny_mono (Mf (Q := fun v σ => ∃ t, v = .bool t ∧ Q t σ) k2 R (T0 (fun t q => ⟨t, rfl, q⟩) h2)) (fun c s3 ⟨σ3, ⟨t, et, h3⟩, p3⟩ => ?_) fun _ _ e => e
 rw [Dx et]
 exact wpAny_truthy_bool (iEA σ3 h3 ((p1.trans p2).trans p3))
theorem Sy {l r : Tst} (hl : H0 prog w K h0 n l) (hr : H0 prog w K h0 n r) (p : Pos) : H0 prog w K h0 n (.conj l r p) := by
 intro env nm ρ σ Q s A E ok eo R k F h
 replace ok := bd2 ok
 refine isTrue_and (wpAny_mono (hl ok.1 eo R k F h) (fun t s1 => yEA fun σ1 h1 p1 => ?_) fun _ _ e => e)
 cases t with
 | false => rw [if_neg (by decide)]; exact ⟨σ1, h1.2 rfl, p1⟩
 | true =>
  rw [if_pos rfl]
  refine isTrue_and (wpAny_mono (hr ok.2 eo R (k.post0 p1) (F.post p1) (h1.1 rfl)) (fun t s2 => yEA fun σ2 h2 p2 => ?_) fun _ _ e => e)
  cases t with
  | false => rw [if_neg (by decide)]; exact iEA σ2 h2 (p1.trans p2)
  | true => rw [if_pos rfl]; exact isTrue_and_nil (iEA σ2 h2 (p1.trans p2))
theorem Sw {l r : Tst} (hl : H0 prog w K h0 n l) (hr : H0 prog w K h0 n r) (p : Pos) : H0 prog w K h0 n (.disj l r p) := by
 intro env nm ρ σ Q s A E ok eo R k F h
 replace ok := bd2 ok
 refine isTrue_or (wpAny_mono (hl ok.1 eo R k F h) (fun t s1 => yEA fun σ1 h1 p1 => ?_) fun _ _ e => e)
 cases t with
 | true => rw [if_pos rfl]; exact ⟨σ1, h1.1 rfl, p1⟩
 | false =>
  rw [if_neg (by decide)]
  refine isTrue_or (wpAny_mono (hr ok.2 eo R (k.post0 p1) (F.post p1) (h1.2 rfl)) (fun t s2 => yEA fun σ2 h2 p2 => ?_) fun _ _ e => e)
  cases t with
  | true => rw [if_pos rfl]; exact iEA σ2 h2 (p1.trans p2)
  | false => rw [if_neg (by decide)]; exact isTrue_or_nil (iEA σ2 h2 (p1.trans p2))
theorem Vt {c : Tst} (hc : H0 prog w K h0 n c) (p : Pos) : H0 prog w K h0 n (.not c p) := by
 intro env nm ρ σ Q s A E ok eo R k F h
 exact isTrue_not (wpAny_mono (hc ok eo R k F h) (fun t s1 => yEA fun σ1 h1 p1 => ⟨σ1, h1, p1⟩) fun _ _ e => e)
theorem Vs {e : Ex} (he : Az prog w K h0 n e) : H0 prog w K h0 n (.val e) := by
 intro env nm ρ σ Q s A E ok eo R k F h
 replace ok := bd2 ok
 have hp : ∀ whole, isTrue (trE nm e) env whole = (do let v ← whole; standAt (trE nm e).pos; holding [v] (truthy v)) := by
  intro whole; cases e <;> first | rfl | cases ok.1
 refine isTrue_plain (wpAny_mono (he ok.2 eo R k F h) (fun v s1 => yEA fun σ1 h1 p1 => ?_) fun _ _ e => e) (hp _)
 exact upb p1 (Fq (k.post0 p1) h1)
theorem Ke : ∀ {l : List Str} {i j : Nat} {x y : Str}, An l = true → l[i]? = some x → l[j]? = some y → i ≠ j → x ≠ y
 | [], _, _, _, _, _, h, _, _ => by simp at h
 | a :: l, 0, 0, _, _, _, _, _, h => absurd rfl h
 | a :: l, 0, j + 1, x, y, hn, h1, h2, _ => by
  simp only [An, Bool.and_eq_true, Bool.not_eq_true'] at hn
  simp only [List.getElem?_cons_zero, Option.some.injEq] at h1
  simp only [List.getElem?_cons_succ] at h2
  subst h1; rintro rfl
  have := List.mem_of_getElem? h2
  have q := hn.1
  rw [List.contains_iff_mem.mpr this] at q; cases q
 | a :: l, i + 1, 0, x, y, hn, h1, h2, _ => by
  simp only [An, Bool.and_eq_true, Bool.not_eq_true'] at hn
  simp only [List.getElem?_cons_zero, Option.some.injEq] at h2
  simp only [List.getElem?_cons_succ] at h1
  subst h2; rintro rfl
  have := List.mem_of_getElem? h1
  have q := hn.1
  rw [List.contains_iff_mem.mpr this] at q; cases q
 | a :: l, i + 1, j + 1, x, y, hn, h1, h2, h => by
  simp only [An, Bool.and_eq_true, Bool.not_eq_true'] at hn
  simp only [List.getElem?_cons_succ] at h1 h2
  exact Ke hn.2 h1 h2 fun e => h (by rw [e])
theorem Gx {ρ : Loc} {i : Nat} {v u : V} (h : (ρ.set i (some v)).getD i none = some u) : u = v := by
 rw [List.getD_eq_getElem?_getD, List.getElem?_set_self'] at h
 cases e : ρ[i]? with
 | none => rw [e] at h; cases h
 | some x => rw [e] at h; simp at h; exact h.symm
theorem Cm {ρ : Loc} {i j : Nat} {v : Option V} (h : i ≠ j) : (ρ.set i v).getD j none = ρ.getD j none := by
 rw [List.getD_eq_getElem?_getD, List.getD_eq_getElem?_getD, List.getElem?_set_ne h]
theorem Fm.mono {env : Env} {nm : List Str} {ρ : Loc} {σ : Aa} {h h' : Heap} (f : Fm env nm ρ σ h) (k : ∀ a, Ab env a → ∀ o, h.get? a = some o → h'.get? a = some o) : Fm env nm ρ σ h' := by
 refine zEA f.ns fun m hn hm => ?_
 refine ⟨iEA m (hn.at' fun o e => k _ (.inl rfl) o e) hm, fun i x v e1 e2 e3 => ?_, fun x c hc => ?_, f.off⟩
 ·(refine Bv (f.cell i x v e1 e2 e3) fun c u h1 zq0 h4 => ?_; refine zEA zq0 fun o h2 h3 => ?_)
  exact Ba c u h1 (iEA o (k c (.inr ⟨x, mem_of_lookup h1⟩) o h2) h3) h4
 ·refine Ei (f.any x c hc) fun v o h2 h3 => ?_
  exact C5 v o (k c (.inr ⟨x, hc⟩) o h2) h3
theorem L6 {env : Env} {nm : List Str} {ρ : Loc} {σ : Aa} {s : Shared} {i : Nat} {v : Value} {M : Model} {A : Around} {E : Value → Shared → Prop} {Q : Unit → Shared → Prop} (eo : Ax h0 env) (hnd : An nm = true) (F : Fm env nm ρ σ s.heap)
  (hi : i < nm.length) (hk : env.kindOf (Ac nm i) = some .local)
  (h : ∀ h' tk, Fm env nm (ρ.set i (some (Af v))) σ h' → Heap.SameBut env.locals s.heap h' → Q () { s with heap := h', toks := tk }) :
  wpAny M A (storeName env (Ac nm i) v) Q E s := by
 refine zEA F.ns fun m hn hm => ?_
 refine wpAny_storeName_local hk hn (fun h' hn' hs => h h' _ ⟨iEA _ hn' (fun j x u e1 e2 e3 => ?_), fun j x u e1 e2 e3 => ?_, fun x c hc => ?_, F.off⟩ hs) ?_
 ·by_cases q : i = j
  ·subst q
   have := Gx e3; subst this
   have ex : x = Ac nm i := by rw [Cj hi] at e1; exact (Option.some.inj e1).symm
   exact iEA v (by rw [if_pos ex]) rfl
  ·rw [Cm q] at e3
   refine zEA (hm j x u e1 e2 e3) fun u' h1 h2 => ?_
   exact iEA u' (by rw [if_neg (Ke hnd e1 (Cj hi) (Ne.symm q))]; exact h1) h2
 ·have q : i ≠ j := fun q => by
   subst q; rw [Cj hi] at e1; cases e1; rw [hk] at e2; cases e2
  rw [Cm q] at e3
  refine Bv (F.cell j x u e1 e2 e3) fun c u' h1 h2 h3 => ?_
  exact Ba c u' h1 (h2.sameBut hs (Ne.symm (eo.lc x c (mem_of_lookup h1)))) h3
 ·refine zE (F.any x c hc) fun v' hv => ?_
  exact ⟨v', hv.sameBut hs (Ne.symm (eo.lc x c hc))⟩
 ·rw [eo.kind]; rfl
noncomputable def Hy (h0 : Heap) (env : Env) (nm : List Str) (own : Addr → Prop) (i : Nat) : Prop :=
 ∀ {ρ : Loc} {σ : Aa} {s : Shared} {v : Value} {M : Model} {A : Around} {E : Value → Shared → Prop} {Q : Unit → Shared → Prop}, Ok h0 σ s → Fm env nm ρ σ s.heap →
  (∀ h' tk, Fm env nm (ρ.set i (some (Af v))) σ h' → (∀ b o, ¬ own b → s.heap.get? b = some o → h'.get? b = some o) → (∀ b o, own b → s.heap.get? b = some o → ∃ o', h'.get? b = some o') → Q () { s with heap := h', toks := tk }) →
  wpAny M A (storeName env (Ac nm i) v) Q E s
structure Xg (h0 : Heap) (env : Env) (nm : List Str) (own : Addr → Prop) (t : Tg) : Prop where
 sub : ∀ a, own a → Ab env a
 st : match t with | .one i _ => Hy h0 env nm own i | .two i _ j _ _ => Hy h0 env nm own i ∧ Hy h0 env nm own j
theorem Pm {env : Env} {nm : List Str} (eo : Ax h0 env) (hnd : An nm = true) {i : Nat} (hi : i < nm.length) (hk : env.kindOf (Ac nm i) = some .local) : Hy h0 env nm (fun a => a = env.locals) i := by
 intro ρ σ s v M A E Q ok F h
 refine L6 eo hnd F hi hk fun h' tk F' hs => h h' tk F' (fun b o hb e => (hs.2 b hb).trans e) fun b o hb _ => ?_
 subst hb
 (refine zEA F'.ns fun m zq0 _ => ?_; refine It zq0 fun o' _ _ q _ => ?_)
 exact ⟨o', q⟩
theorem cY {env : Env} {nm : List Str} (eo : Ax h0 env) (hnd : An nm = true) {t : Tg} (h : Oh env.kindOf nm t = true) : Xg h0 env nm (fun a => a = env.locals) t := by
 refine ⟨fun a ha => .inl ha, ?_⟩
 cases t with
 | one i p =>
  simp only [Oh, Bool.and_eq_true, decide_eq_true_eq, beq_iff_eq] at h
  exact Pm eo hnd h.1 h.2
 | two i pi j pj p =>
  simp only [Oh, Bool.and_eq_true, decide_eq_true_eq, beq_iff_eq] at h
  exact ⟨Pm eo hnd h.1.1.1 h.1.1.2, Pm eo hnd h.1.2 h.2⟩
theorem aC {env : Env} {wr : List Addr} {σ : Aa} {s : Shared} {h' : Heap} {tk : Nat} (ok : Ok h0 σ s) (hw : ∀ b ∈ wr, σ b = none ∧ ¬ Ab env b ∧ Bs h0 b) (hk' : ∀ b o, b ∉ wr → s.heap.get? b = some o → h'.get? b = some o) : Ok h0 σ { s with heap := h', toks := tk } :=
 ⟨fun b o e => hk' b o (fun hm => by have := (hw b hm).2.2; rw [Bs, e] at this; cases this) (ok.base b o e), fun a o e => (ok.sat a o e).at' fun ob q => hk' a ob (fun hm => by rw [(hw a hm).1] at e; cases e) q⟩
theorem bB {env : Env} {nm : List Str} {ρ : Loc} {own : Addr → Prop} {σ : Aa} {s : Shared} {h' : Heap} {tk : Nat} (eo : Ax h0 env) (hsub : ∀ a, own a → Ab env a) (F : Fm env nm ρ σ s.heap) (ok : Ok h0 σ s) (hk' : ∀ b o, ¬ own b → s.heap.get? b = some o → h'.get? b = some o) : Ok h0 σ { s with heap := h', toks := tk } :=
 ⟨fun b o e => hk' b o (fun hm => by have := eo.own b (hsub b hm); rw [Bs, e] at this; cases this) (ok.base b o e), fun a o e => (ok.sat a o e).at' fun ob q => hk' a ob (fun hm => by rw [F.off a (hsub a hm)] at e; cases e) q⟩
structure N6 (prog : Program) (w : World) (A : Around) (h0 : Heap) (env : Env) (nm : List Str) (own : Addr → Prop) (t : Tg) (I : Addr) (wr : List Addr) (items : List (List V)) (g : Aa → Prop) (St : Nat → Heap → Prop) : Prop where
 turn : ∀ k (s : Shared) σ ρ it (N Q : Shared → Prop) (E : Value → Shared → Prop), items[k]? = some it → g σ → Ok h0 σ s → Fm env nm ρ σ s.heap → (∀ b ∈ wr, σ b = none ∧ ¬ Ab env b ∧ Bs h0 b) → St k s.heap →
  (∀ s2, Ok h0 σ s2 → Fm env nm (D4 t it ρ) σ s2.heap → St (k + 1) s2.heap → Ah h0 (fun a => own a ∨ a ∈ wr) σ s σ s2 → Q s2) →
  wpAny (model prog w) A (pyNext (.ref I)) (fun r s1 => match r with
   | none => N s1
   | some v => wpAny (model prog w) A (letOwnedTupleGo (I3 nm t) (.ref I) v) (fun _ s1' => wpAny (model prog w) A (assign (I3 nm t) env v) (fun _ s2 => Q s2) E s1') E s1) E s
 done : ∀ (s : Shared) σ ρ (Q : Shared → Prop) (Y : Value → Shared → Prop) (E : Value → Shared → Prop), g σ → Ok h0 σ s → Fm env nm ρ σ s.heap → (∀ b ∈ wr, σ b = none ∧ ¬ Ab env b ∧ Bs h0 b) → St items.length s.heap →
  (∀ s2, Ok h0 σ s2 → Fm env nm ρ σ s2.heap → (∀ b ∈ wr, ∃ o, s.heap.get? b = some o) → (∀ b o, b ∉ wr → s.heap.get? b = some o → s2.heap.get? b = some o) → s2.os = s.os → s2.gens = s.gens → Q s2) →
  wpAny (model prog w) A (pyNext (.ref I)) (fun r s1 => match r with | none => Q s1 | some v => Y v s1) E s
theorem R7 {own : Addr → Prop} {σ : Aa} {s s' : Shared} (k : Ok h0 σ s) (hk : ∀ b o, ¬ own b → s.heap.get? b = some o → s'.heap.get? b = some o) (hl : ∀ b o, own b → s.heap.get? b = some o → ∃ o', s'.heap.get? b = some o') (hf : ∀ b, own b → σ b = none) (ho : s'.os = s.os) (hg : s'.gens = s.gens) :
  Ah h0 own σ s σ s' where
 sat := fun a x e => (k.sat a x e).at' fun _ => hk _ _ fun q => by rw [hf a q] at e; cases e
 keep := fun a o e _ q => hk a o q e
 live := fun a o e => by
  by_cases q : own a
  ·exact hl a o q e
  ·exact ⟨o, hk a o q e⟩
 dom := fun a h => .inl h
 os := ho
 gens := hg
theorem Ou {A : Around} {env : Env} {nm : List Str} {own : Addr → Prop} {i : Nat} {p : Pos} {I : Addr} {wr : List Addr} {vs : List V} {g : Aa → Prop} {St : Nat → Heap → Prop} (eo : Ax h0 env) (ht : Xg h0 env nm own (.one i p))
  (frame : ∀ k h h', (∀ b ∈ wr, ∀ o, h.get? b = some o → h'.get? b = some o) → St k h → St k h') (here : ∀ k h, St k h → ∀ b ∈ wr, ∃ o, h.get? b = some o)
  (item : ∀ k v (s : Shared) σ (Q : Option Value → Shared → Prop) (E : Value → Shared → Prop), vs[k]? = some v → g σ → Ok h0 σ s → St k s.heap →
   (∀ u h' tk, Af u = v → St (k + 1) h' → (∀ b o, b ∉ wr → s.heap.get? b = some o → h'.get? b = some o) → Q (some u) { s with heap := h', toks := tk }) → wpAny (model prog w) A (pyNext (.ref I)) Q E s)
  (done : ∀ (s : Shared) σ (Q : Option Value → Shared → Prop) (E : Value → Shared → Prop), g σ → Ok h0 σ s → St vs.length s.heap →
   (∀ h' tk, (∀ b o, b ∉ wr → s.heap.get? b = some o → h'.get? b = some o) → Q none { s with heap := h', toks := tk }) → wpAny (model prog w) A (pyNext (.ref I)) Q E s) :
  N6 prog w A h0 env nm own (.one i p) I wr (vs.map fun v => [v]) g St where
 turn := fun k s σ ρ it N Q E hit hg ok F hw st hQ => by
  rw [List.getElem?_map] at hit
  (refine zEA (Option.map_eq_some_iff.mp hit) fun v hv zq0 => ?_; subst zq0)
  refine item k v s σ _ E hv hg ok st fun u h' tk eu st' hk' => ?_
  dsimp only
  show wpAny _ _ (letOwnedTupleGo (.Name (Ac nm i) p) _ _) _ _ _
  refine wpAny_pure ?_
  show wpAny _ _ (assign (.Name (Ac nm i) p) env u) _ _ _
  have F1 : Fm env nm ρ σ h' := F.mono fun a ha o e => hk' a o (fun hm => (hw a hm).2.1 ha) e
  refine wpAny_assign_Name (ht.st (s := { s with heap := h', toks := tk }) (aC ok hw hk') F1 fun h2 tk2 F2 hs hl => ?_)
  have hLw : ∀ b ∈ wr, ¬ own b := fun b hm q => (hw b hm).2.1 (ht.sub b q)
  have keep : ∀ b o, ¬ own b → b ∉ wr → s.heap.get? b = some o → h2.get? b = some o := fun b o b1 b2 e => hs b o b1 (hk' b o b2 e)
  have st2 : St (k + 1) h2 := frame _ _ _ (fun b hb o e => hs b o (hLw b hb) e) st'
  have P : Ah h0 (fun a => own a ∨ a ∈ wr) σ s σ { s with heap := h2, toks := tk2 } := R7 ok (fun b o hb e => keep b o (fun q => hb (.inl q)) (fun q => hb (.inr q)) e)
   (fun b o hb e => by
    rcases hb with hb | hb
    ·exact hl b o hb (hk' b o (fun q => hLw b q hb) e)
    ·exact here _ _ st2 b hb)
   (fun b hb => by rcases hb with hb | hb; exact F.off b (ht.sub b hb); exact (hw b hb).1) rfl rfl
  refine hQ _ (ok.post P fun a ha => ?_) (by rw [eu] at F2; exact F2) st2 P
  rcases ha with ha | ha
  ·exact eo.own a (ht.sub a ha)
  ·exact (hw a ha).2.2
 done := fun s σ ρ Q Y E hg ok F hw st hQ => by
  rw [List.length_map] at st
  refine done s σ _ E hg ok st fun h' tk hk' => ?_
  refine hQ _ ⟨fun b o e => ?_, fun a o e => (ok.sat a o e).at' fun ob q => hk' a ob (fun hm => by rw [(hw a hm).1] at e; cases e) q⟩ (F.mono fun a ha o e => hk' a o (fun hm => (hw a hm).2.1 ha) e) (here _ _ st) hk' rfl rfl
  exact hk' b o (fun hm => by have := (hw b hm).2.2; rw [Bs, e] at this; cases this) (ok.base b o e)
theorem Ot {A : Around} {env : Env} {nm : List Str} {own : Addr → Prop} {i j : Nat} {p pi pj : Pos} {I : Addr} {wr : List Addr} {vs : List (V × V)} {g : Aa → Prop} {St : Nat → Heap → Prop} {Mid : Nat → Addr → Heap → Prop} {m : Nat} (R : Cy A m) (eo : Ax h0 env) (htg : Xg h0 env nm own (.two i pi j pj p))
  (frame : ∀ k h h', (∀ b ∈ wr, ∀ o, h.get? b = some o → h'.get? b = some o) → St k h → St k h') (here : ∀ k h, St k h → ∀ b ∈ wr, ∃ o, h.get? b = some o)
  (item : ∀ k v (s : Shared) σ (Q : Option Value → Shared → Prop) (E : Value → Shared → Prop), vs[k]? = some v → g σ → Ok h0 σ s → St k s.heap →
   (∀ T u u' h' tk, Af u = v.1 → Af u' = v.2 → s.heap.objs.size ≤ T → h'.IsTuple T #[u, u'] → Mid k T h' → T ∉ wr → (∀ b o, b ∉ wr → s.heap.get? b = some o → h'.get? b = some o) → Q (some (.ref T)) { s with heap := h', toks := tk }) → wpAny (model prog w) A (pyNext (.ref I)) Q E s)
  (go : ∀ (elts : List Expr) (c : Nat) (pos : Pos) k T (s : Shared) (Q : Unit → Shared → Prop) (E : Value → Shared → Prop), Mid k T s.heap →
   (∀ h', St (k + 1) h' → (∀ b o, b ∉ wr → s.heap.get? b = some o → h'.get? b = some o) → Q () { s with heap := h' }) → wpAny (model prog w) A (letOwnedTupleGo (.Tuple elts c pos) (.ref I) (.ref T)) Q E s)
  (done : ∀ (s : Shared) σ (Q : Option Value → Shared → Prop) (E : Value → Shared → Prop), g σ → Ok h0 σ s → St vs.length s.heap →
   (∀ h' tk, (∀ b o, b ∉ wr → s.heap.get? b = some o → h'.get? b = some o) → Q none { s with heap := h', toks := tk }) → wpAny (model prog w) A (pyNext (.ref I)) Q E s) :
  N6 prog w A h0 env nm own (.two i pi j pj p) I wr (vs.map fun v => [v.1, v.2]) g St where
 turn := fun k s σ ρ it N Q E hit hg ok F hw st hQ => by
  rw [List.getElem?_map] at hit
  (refine zEA (Option.map_eq_some_iff.mp hit) fun v hv zq0 => ?_; subst zq0)
  refine item k v s σ _ E hv hg ok st fun T u u' h' tk eu eu' hT ht hm hTw hk' => ?_
  dsimp only
  have hLw : ∀ b ∈ wr, ¬ own b := fun b hm q => (hw b hm).2.1 (htg.sub b q)
  refine go _ _ _ k T { s with heap := h', toks := tk } _ E hm fun h1 st1 hk1 => ?_
  have ht1 : h1.IsTuple T #[u, u'] := by
   refine zEA ht fun o q r => ?_; exact iEA o (hk1 T o hTw q) r
  refine wpAny_assign_Tuple (items := #[u, u']) R.handled ht1 rfl rfl fun h2 hx => ?_
  have F1 : Fm env nm ρ σ h1 := F.mono fun a ha o e => hk1 a o (fun hm => (hw a hm).2.1 ha) (hk' a o (fun hm => (hw a hm).2.1 ha) e)
  have F2 : Fm env nm ρ σ h2 := F1.mono fun a ha o e => hx a o (Nat.ne_of_lt (Heap.lt_size e)) e
  have k2 : ∀ b o, b ∉ wr → s.heap.get? b = some o → h2.get? b = some o := fun b o hb e => by
   have e1 := hk1 b o hb (hk' b o hb e)
   exact hx b o (Nat.ne_of_lt (Heap.lt_size e1)) e1
  have ok2 : Ok h0 σ { s with heap := h2, toks := tk } := aC ok hw k2
  refine assignInOrder_cons (wpAny_assign_Name (htg.st.1 (s := { s with heap := h2, toks := tk }) ok2 F2 fun h3 tk3 F3 hs3 hl3 => ?_))
  have ok3 : Ok h0 σ { s with heap := h3, toks := tk3 } := bB (s := { s with heap := h2, toks := tk }) eo htg.sub F2 ok2 hs3
  refine assignInOrder_cons (wpAny_assign_Name (htg.st.2 (s := { s with heap := h3, toks := tk3 }) ok3 F3 fun h4 tk4 F4 hs4 hl4 => ?_))
  refine assignInOrder_nil ?_
  have keep : ∀ b o, ¬ own b → b ∉ wr → s.heap.get? b = some o → h4.get? b = some o := fun b o b1 b2 e => hs4 b o b1 (hs3 b o b1 (k2 b o b2 e))
  have st2 : St (k + 1) h4 := frame _ _ _ (fun b hb o e => hs4 b o (hLw b hb) (hs3 b o (hLw b hb) (hx b o (Nat.ne_of_lt (Heap.lt_size e)) e))) st1
  have P : Ah h0 (fun a => own a ∨ a ∈ wr) σ s σ { s with heap := h4, toks := tk4 } := R7 ok (fun b o hb e => keep b o (fun q => hb (.inl q)) (fun q => hb (.inr q)) e)
   (fun b o hb e => by
    rcases hb with hb | hb
    ·refine zE (hl3 b o hb (k2 b o (fun q => hLw b q hb) e)) fun o3 e3 => ?_
     exact hl4 b o3 hb e3
    ·exact here _ _ st2 b hb)
   (fun b hb => by rcases hb with hb | hb; exact F.off b (htg.sub b hb); exact (hw b hb).1) rfl rfl
  refine hQ _ (ok.post P fun a ha => ?_) (by rw [eu, eu'] at F4; exact F4) st2 P
  rcases ha with ha | ha
  ·exact eo.own a (htg.sub a ha)
  ·exact (hw a ha).2.2
 done := fun s σ ρ Q Y E hg ok F hw st hQ => by
  rw [List.length_map] at st
  refine done s σ _ E hg ok st fun h' tk hk' => ?_
  refine hQ _ ⟨fun b o e => ?_, fun a o e => (ok.sat a o e).at' fun ob q => hk' a ob (fun hm => by rw [(hw a hm).1] at e; cases e) q⟩ (F.mono fun a ha o e => hk' a o (fun hm => (hw a hm).2.1 ha) e) (here _ _ st) hk' rfl rfl
  exact hk' b o (fun hm => by have := (hw b hm).2.2; rw [Bs, e] at this; cases this) (ok.base b o e)
structure Ir (prog : Program) (w : World) (A : Around) (h0 : Heap) (src : Src) (σ : Aa) (s : Shared) (Q : List (List V) → (Aa → Prop) → Aa → Prop) (it : Value) (s2 : Shared) (I : Addr) (wr : List Addr) (items : List (List V)) (g : Aa → Prop) (St : Nat → Heap → Prop) (σ2 : Aa) : Prop where
 it : it = .ref I
 q : Q items g σ2
 post : Ah h0 Aj σ s σ2 s2
 fresh : ∀ b ∈ wr, s.heap.get? b = none ∧ σ2 b = none
 start : St 0 s2.heap
 frame : ∀ k h h', (∀ b ∈ wr, ∀ o, h.get? b = some o → h'.get? b = some o) → St k h → St k h'
 here : ∀ k h, St k h → ∀ b ∈ wr, ∃ o, h.get? b = some o
 self : ∀ k (s : Shared) (Q : Value → Shared → Prop) (E : Value → Shared → Prop), St k s.heap → Q (.ref I) s → wpAny (model prog w) A (pyIter (.ref I)) Q E s
 iter : ∀ env nm own t, Do t src = true → Ax h0 env → Xg h0 env nm own t → N6 prog w A h0 env nm own t I wr items g St
noncomputable def Dr (prog : Program) (w : World) (K : Frag) (h0 : Heap) (n : Nat) (src : Src) : Prop :=
 ∀ {env : Env} {nm : List Str} {ρ : Loc} {σ : Aa} {Q : List (List V) → (Aa → Prop) → Aa → Prop} {s : Shared} {A : Around} {E : Value → Shared → Prop}, L7 env.kindOf nm src = true → Ax h0 env → Cy A n → Ok h0 σ s → Fm env nm ρ σ s.heap →
  L5 (Bs h0) (Am prog w K h0 n) src ρ σ Q →
  wpAny (model prog w) A (eval (Ee nm src) env) (fun x s1 => wpAny (model prog w) A (pyIter x) (fun it s2 => ∃ I wr items g St σ2, Ir prog w A h0 src σ s Q it s2 I wr items g St σ2) E s1) E s
theorem Ah.fresh0 {own : Addr → Prop} {σ σ1 : Aa} {s s1 : Shared} (p : Ah h0 own σ s σ1 s1) {b : Addr} (h : s1.heap.get? b = none) : s.heap.get? b = none := by
 cases e : s.heap.get? b with
 | none => rfl
 | some o => refine zE (p.live b o e) fun o' e' => ?_; rw [h] at e'; cases e'
theorem Ir.up {A : Around} {src : Src} {σ σ1 : Aa} {s s1 : Shared} {Q : List (List V) → (Aa → Prop) → Aa → Prop} {it : Value} {s2 : Shared} {I : Addr} {wr : List Addr} {items : List (List V)} {g : Aa → Prop} {St : Nat → Heap → Prop} {σ2 : Aa}
  (p : Ah h0 Aj σ s σ1 s1) (r : Ir prog w A h0 src σ1 s1 Q it s2 I wr items g St σ2) : Ir prog w A h0 src σ s Q it s2 I wr items g St σ2 :=
 { r with post := p.trans r.post, fresh := fun b hb => ⟨p.fresh0 (r.fresh b hb).1, (r.fresh b hb).2⟩ }
theorem U9 {A : Around} {E : Value → Shared → Prop} {src : Src} {x : Addr} {xs : List V} {σ : Aa} {s : Shared} {Q : List (List V) → (Aa → Prop) → Aa → Prop} {m : Nat} (R : Cy A m) (hsrc : ∀ t, Do t src = true → ∃ i p, t = .one i p) (k : Ok h0 σ s) (hx : σ x = some (.list xs))
  (h : Q (xs.map fun v => [v]) (fun σ => σ x = some (.list xs)) σ) :
  wpAny (model prog w) A (pyIter (.ref x)) (fun it s2 => ∃ I wr items g St σ2, Ir prog w A h0 src σ s Q it s2 I wr items g St σ2) E s := by
 (refine A6 (k.sat _ _ hx) fun xa gx zq0 hl => ?_; subst zq0)
 refine wpAny_pyIter_list gx.isList (Du s.heap.objs.size ([s.heap.objs.size]) ((xa.toList.map Af).map fun v => [v]) (fun σ => σ x = some (.list (xa.toList.map Af))) (fun k h => h.IsListIter s.heap.objs.size x k) σ ?_)
 have fr := get?_size s.heap
 refine ⟨rfl, h, .junk (tk := s.toks) k fun b o e => Heap.get?_push_of_some _ e, ?_, Ay _ (Heap.get?_push_size _ rfl) rfl rfl, ?_, ?_, ?_, ?_⟩
 ·intro b hb; rw [List.mem_singleton.mp hb]; exact ⟨fr, k.fresh fr⟩
 ·intro k h h' hk st; exact st.at fun o e => hk _ (.head _) o e
 ·intro k h st b hb; rw [List.mem_singleton.mp hb]; refine zEA st fun o e _ => ?_; exact ⟨o, e⟩
 ·intro k s Q E st q; exact wpAny_pyIter_listiter st q
 ·intro env nm own t ht eo hok
  (refine zEE (hsrc t ht) fun i p zq0 => ?_; subst zq0)
  refine Ou eo hok (fun k h h' hk st => st.at fun o e => hk _ (.head _) o e) (fun k h st b hb => by rw [List.mem_singleton.mp hb]; refine zEA st fun o e _ => ?_; exact ⟨o, e⟩) ?_ ?_
  ·intro j v s' σ' Q' E' hv hg ok st hQ
   refine A6 (ok.sat _ _ hg) fun ya gy ey _ => ?_
   rw [← ey, List.getElem?_map] at hv
   refine zEA (Option.map_eq_some_iff.mp hv) fun u hu eu => ?_
   refine wpAny_pyNext_list_item st gy.isList (x := u) (by simpa using hu) fun h' st' hs => hQ u h' s'.toks eu st' fun b o hb e => ?_
   exact (hs.2 b fun q => hb (by rw [q]; exact .head _)).trans e
  ·intro s' σ' Q' E' hg ok st hQ
   refine A6 (ok.sat _ _ hg) fun ya gy ey _ => ?_
   have : ya.size = (xa.toList.map Af).length := by rw [← ey]; simp
   refine wpAny_pyNext_list_end R.handled st gy.isList (by rw [Array.getElem?_eq_none_iff]; exact ln 0x2221001021 [ya.size, (List.map Af xa.toList).length] this) fun h' hs => hQ h' s'.toks fun b o hb e => ?_
   exact hs b o (fun q => hb (by rw [q]; exact .head _)) e
theorem Pq {e : Ex} (he : Az prog w K h0 n e) : Dr prog w K h0 n (.lst e) := by
 intro env nm ρ σ Q s A E ok eo R k F h
 refine wpAny_mono (he (E := E) ok eo R k F h) (fun a s1 => yEA fun σ1 h1 p1 => ?_) fun _ _ e => e
 dsimp only at h1
 unfold Ka at h1
 split at h1
 ·rename_i x ex
  refine zEA h1 fun xs hx h1 => ?_
  rw [Av ex]
  refine wpAny_mono (U9 R (fun t ht => ?_) (k.post0 p1) hx h1) (fun it s2 => Ey fun I wr items g St σ2 r => ⟨I, wr, items, g, St, σ2, r.up p1⟩) fun _ _ e => e
  cases t with
  | one i p => exact iEE i p rfl
  | two => cases ht
 ·exact h1.elim
theorem H8 {A : Around} {E : Value → Shared → Prop} {src : Src} {r : Addr} {a b c : Int} {t u v : Tok} {vs : List V} {σ : Aa} {s : Shared} {Q : List (List V) → (Aa → Prop) → Aa → Prop} {m : Nat} (R : Cy A m) (hsrc : ∀ t, Do t src = true → ∃ i p, t = .one i p) (k : Ok h0 σ s)
  (hr : IsRange s.heap r a b c t u v) (hs : Builtin.Range.small a b c = true) (hn : (vs.length : Int) = Builtin.Range.rangeSize a b c) (hv : ∀ (i : Nat) x, vs[i]? = some x → x = .int (a + i * c)) (h : Q (vs.map fun v => [v]) (fun _ => True) σ) :
  wpAny (model prog w) A (pyIter (.ref r)) (fun it s2 => ∃ I wr items g St σ2, Ir prog w A h0 src σ s Q it s2 I wr items g St σ2) E s := by
 refine wpAny_pyIter_range hr hs (Du s.heap.objs.size ([s.heap.objs.size]) (vs.map fun v => [v]) (fun _ => True) (fun k h => IsRangeIter h s.heap.objs.size (a + (k : Nat) * c) ((vs.length : Int) - (k : Nat)) c) σ ?_)
 have fr := get?_size s.heap
 have W := Walks.range (prog := prog) (w := w) (A := A) R.handled s.heap.objs.size a c vs.length
 refine ⟨rfl, h, .junk (tk := s.toks) k fun b o e => Heap.get?_push_of_some _ e, ?_, ?_, ?_, ?_, ?_, ?_⟩
 ·intro b hb; rw [List.mem_singleton.mp hb]; exact ⟨fr, k.fresh fr⟩
 ·show (s.heap.push _).get? s.heap.objs.size = some _
  rw [Heap.get?_push_size _ rfl, hn]
  simp
 ·intro k h h' hk st; exact hk _ (.head _) _ st
 ·intro k h st b hb; rw [List.mem_singleton.mp hb]; exact ⟨_, st⟩
 ·intro k s Q E st q; exact W.self k s Q E st q
 ·intro env nm own t ht eo hok
  (refine zEE (hsrc t ht) fun i p zq0 => ?_; subst zq0)
  refine Ou eo hok (fun k h h' hk st => hk _ (.head _) _ st) (fun k h st b hb => by rw [List.mem_singleton.mp hb]; exact ⟨_, st⟩) ?_ ?_
  ·intro j v s' σ' Q' E' hv' hg ok st hQ
   have hj : j < vs.length := by
    rcases Nat.lt_or_ge j vs.length with q | q
    ·exact q
    ·rw [List.getElem?_eq_none q] at hv'; cases hv'
   refine W.item j s' Q' E' hj st fun u h' tk hP st' hk => hQ u h' tk ?_ st' hk
   (refine zE hP fun t zq0 => ?_; subst zq0)
   exact (hv j v hv').symm
  ·intro s' σ' Q' E' hg ok st hQ
   exact W.done s' Q' E' st hQ
include G in
theorem G5 {p : Pos} {env : Env} {Q : Value → Shared → Prop} {s : Shared} {A : Around} {E : Value → Shared → Prop} {σ : Aa} (eo : Ax h0 env) (k : Ok h0 σ s) (hk : env.kindOf "range" = some .globalImplicit) (h : Q (.type "range") s) :
  wpAny (model prog w) A (eval (.Name "range" p) env) Q E s :=
 Name_function_global eo.kind hk (loadGlobal_builtin (by rw [eo.glob]; exact G.g.keeps k.base) (mg_none_of G.X G.g G.kf.rng) (by rw [eo.bi]; exact G.b.keeps k.base) ((G.boot _ (by decide)).trans boot_range) h) (by decide)
include G in
theorem Tt {p : Pos} {env : Env} {Q : Value → Shared → Prop} {s : Shared} {A : Around} {E : Value → Shared → Prop} {σ : Aa} (eo : Ax h0 env) (k : Ok h0 σ s) (hk : env.kindOf "enumerate" = some .globalImplicit) (h : Q (.type "enumerate") s) :
  wpAny (model prog w) A (eval (.Name "enumerate" p) env) Q E s :=
 Name_function_global eo.kind hk (loadGlobal_builtin (by rw [eo.glob]; exact G.g.keeps k.base) (mg_none_of G.X G.g G.kf.enu) (by rw [eo.bi]; exact G.b.keeps k.base) ((G.boot _ (by decide)).trans boot_enumerate) h) (by decide)
include G in
theorem Uk {p : Pos} {env : Env} {Q : Value → Shared → Prop} {s : Shared} {A : Around} {E : Value → Shared → Prop} {σ : Aa} (eo : Ax h0 env) (k : Ok h0 σ s) (hk : env.kindOf "zip" = some .globalImplicit) (h : Q (.type "zip") s) :
  wpAny (model prog w) A (eval (.Name "zip" p) env) Q E s :=
 Name_function_global eo.kind hk (loadGlobal_builtin (by rw [eo.glob]; exact G.g.keeps k.base) (mg_none_of G.X G.g G.kf.zip) (by rw [eo.bi]; exact G.b.keeps k.base) ((G.boot _ (by decide)).trans boot_zip) h) (by decide)
theorem Gy {x : Int} (h1 : -(2 ^ 62) ≤ x) (h2 : x ≤ 2 ^ 62) : Builtin.Range.rangeFitsLong x = true := by
 unfold Builtin.Range.rangeFitsLong; simp; lia
theorem Oc {a b : Int} (ha : small a) (hb : small b) : Builtin.Range.small a b 1 = true ∧ Builtin.Range.rangeSize a b 1 = ((b - a).toNat : Int) := by
 unfold small at ha hb
 have e : Builtin.Range.rangeSize a b 1 = ((b - a).toNat : Int) := by
  unfold Builtin.Range.rangeSize
  rw [if_pos (by decide)]
  split <;> simp <;> lia
 refine ⟨?_, e⟩
 unfold Builtin.Range.small
 rw [e, Gy (by lia) (by lia), Gy (by lia) (by lia), Gy (by lia) (by lia), Gy (by lia) (by lia)]
 simp only [Bool.true_and, Bool.or_eq_true]
 right
 rw [if_pos (by decide)]; exact Gy (by lia) (by lia)
theorem Py {a b : Int} (ha : small a) (hb : small b) : Builtin.Range.small a b (-1) = true ∧ Builtin.Range.rangeSize a b (-1) = ((a - b).toNat : Int) := by
 unfold small at ha hb
 have e : Builtin.Range.rangeSize a b (-1) = ((a - b).toNat : Int) := by
  unfold Builtin.Range.rangeSize
  rw [if_neg (by decide)]
  split <;> simp <;> lia
 refine ⟨?_, e⟩
 unfold Builtin.Range.small
 rw [e, Gy (by lia) (by lia), Gy (by lia) (by lia), Gy (by lia) (by lia), Gy (by lia) (by lia)]
 simp only [Bool.true_and, Bool.or_eq_true]
 right
 rw [if_neg (by decide)]; exact Gy (by lia) (by lia)
theorem Rm (a b : Int) : J1 a b = ((List.range (b - a).toNat).map fun (i : Nat) => V.int (a + i)).map fun v => [v] := by
 unfold J1; rw [List.map_map]; rfl
theorem Tv (a b : Int) : Fx a b = ((List.range (a - b).toNat).map fun (i : Nat) => V.int (a - i)).map fun v => [v] := by
 unfold Fx; rw [List.map_map]; rfl
theorem Rn {a b : Int} (i : Nat) (x : V) (h : ((List.range (b - a).toNat).map fun (i : Nat) => V.int (a + i))[i]? = some x) : x = .int (a + i * 1) := by
 rw [List.getElem?_map] at h
 (refine zEA (Option.map_eq_some_iff.mp h) fun j hj zq0 => ?_; subst zq0)
 rw [List.getElem?_range (by rcases Nat.lt_or_ge i (b - a).toNat with q | q; exact q; rw [List.getElem?_eq_none (by simpa using q)] at hj; cases hj)] at hj
 cases hj; rw [Int.mul_one]
theorem Tw {a b : Int} (i : Nat) (x : V) (h : ((List.range (a - b).toNat).map fun (i : Nat) => V.int (a - i))[i]? = some x) : x = .int (a + i * (-1)) := by
 rw [List.getElem?_map] at h
 (refine zEA (Option.map_eq_some_iff.mp h) fun j hj zq0 => ?_; subst zq0)
 rw [List.getElem?_range (by rcases Nat.lt_or_ge i (a - b).toNat with q | q; exact q; rw [List.getElem?_eq_none (by simpa using q)] at hj; cases hj)] at hj
 cases hj; congr 1; lia
theorem Qg {src : Src} (h : ∀ i pi j pj p, Do (.two i pi j pj p) src = false) : ∀ t, Do t src = true → ∃ i p, t = .one i p := fun t ht => by
 cases t with
 | one i p => exact iEE i p rfl
 | two i pi j pj p => rw [h i pi j pj p] at ht; cases ht
theorem El {nm : List Str} {env : Env} {pos : Pos} {T : String} {as : Exs} {Q : Value → Shared → Prop} {s : Shared} {A : Around} {E : Value → Shared → Prop}
  (h : wpAny (model prog w) A (spliced (backTo pos (starEach (Bt nm as) env))) (fun vs s₁ => wpAny (model prog w) A (call (.type T) vs) Q E s₁) E s) :
  wpAny (model prog w) A (callWith pos (.type T) [] (backTo pos (starEach (Bt nm as) env)) []) Q E s := by
 refine PyProof.Rows.callWith_type (D3 as) ?_
 cases as with
 | nil => exact Dg h
 | cons e r =>
  show wpAny _ _ (evalArgs _ true (backTo pos (starEach (trE nm e :: Bt nm r) env)) []) _ _ _
  have h' : wpAny (model prog w) A (spliced (backTo pos (starEach (trE nm e :: Bt nm r) env))) _ E s := h
  rw [B8] at h' ⊢
  exact evalArgs_plain h'
include G in
theorem Pv {e : Ex} (he : Az prog w K h0 n e) (q p : Pos) : Dr prog w K h0 n (.range1 e q p) := by
 intro env nm ρ σ Q s A E ok eo R k F h
 replace ok := bd2 ok
 refine wpAny_Call_Name_kw (G5 G eo k (eq_of_beq ok.1) (El (as := .cons e .nil) ?_))
 refine spliced_more (wpAny_mono (he ok.2 eo R k F h) (fun a s1 => yEA fun σ1 h1 p1 => spliced_none ?_) fun _ _ e => e) (B8 e)
 have k1 := k.post0 p1
 dsimp only at h1
 unfold Fo at h1
 split at h1
 ·rename_i i ei
  (refine zE (Al ei) fun t zq0 => ?_; subst zq0)
  have e0 := Oc (a := 0) (b := i) ⟨by decide, by decide⟩ h1.1
  refine call_range_1 ?_
  have j := Ah.junk (own := Aj) (σ := σ1) (tk := s1.toks + 1 + 1) k1 (fun b ob e => Heap.get?_push_of_some ({ cls := .type "range", data := .fields #[.int 0 s1.toks, .int i t, .int 1 (s1.toks + 1)] } : Obj) e)
  have h2 := h1.2
  rw [Rm] at h2
  refine wpAny_mono (H8 (src := .range1 e q p) (s := { s1 with heap := _, toks := s1.toks + 1 + 1 }) R (Qg fun _ _ _ _ _ => rfl) (k1.post0 j) (Heap.get?_push_size _ rfl) e0.1 (by rw [e0.2]; simp) Rn h2) (fun it s2 => Ey fun I wr items g St σ2 r => ⟨I, wr, items, g, St, σ2, r.up (p1.trans j)⟩) fun _ _ e => e
 ·exact h1.elim
include G in
theorem Pu {e f : Ex} (he : Az prog w K h0 n e) (hf : Az prog w K h0 n f) (q p : Pos) : Dr prog w K h0 n (.range2 e f q p) := by
 intro env nm ρ σ Q s A E ok eo R k F h
 replace ok := bd3 ok
 refine wpAny_Call_Name_kw (G5 G eo k (eq_of_beq ok.1.1) (El (as := .cons e (.cons f .nil)) ?_))
 refine spliced_more (wpAny_mono (he ok.1.2 eo R k F h) (fun a s1 => yEA fun σ1 h1 p1 => ?_) fun _ _ e => e) (B8 e)
 have k1 := k.post0 p1
 dsimp only at h1
 unfold Fo at h1
 split at h1
 ·rename_i i ei
  (refine zE (Al ei) fun t zq0 => ?_; subst zq0)
  refine spliced_more (wpAny_mono (hf ok.2 eo R k1 (F.post p1) h1) (fun b s2 => yEA fun σ2 h2 p2 => spliced_none ?_) fun _ _ e => e) (B8 f)
  have k2 := k1.post0 p2
  dsimp only at h2
  split at h2
  ·rename_i i' ei'
   (refine zE (Al ei') fun u zq0 => ?_; subst zq0)
   have e0 := Oc h2.1.1 h2.1.2
   refine call_range_2 ?_
   have j := Ah.junk (own := Aj) (σ := σ2) (tk := s2.toks + 1) k2 (fun b ob e => Heap.get?_push_of_some ({ cls := .type "range", data := .fields #[.int i t, .int i' u, .int 1 s2.toks] } : Obj) e)
   have h3 := h2.2
   rw [Rm] at h3
   refine wpAny_mono (H8 (src := .range2 e f q p) (s := { s2 with heap := _, toks := s2.toks + 1 }) R (Qg fun _ _ _ _ _ => rfl) (k2.post0 j) (Heap.get?_push_size _ rfl) e0.1 (by rw [e0.2]; simp) Rn h3) (fun it s3 => Ey fun I wr items g St σ3 r => ⟨I, wr, items, g, St, σ3, r.up ((p1.trans p2).trans j)⟩) fun _ _ e => e
  ·exact h2.elim
 ·exact h1.elim
include G in
theorem Pt {e f c : Ex} (he : Az prog w K h0 n e) (hf : Az prog w K h0 n f) (hc : Az prog w K h0 n c) (q p : Pos) : Dr prog w K h0 n (.range3 e f c q p) := by
 intro env nm ρ σ Q s A E ok eo R k F h
 replace ok := bd4 ok
 refine wpAny_Call_Name_kw (G5 G eo k (eq_of_beq ok.1.1.1) (El (as := .cons e (.cons f (.cons c .nil))) ?_))
 refine spliced_more (wpAny_mono (he ok.1.1.2 eo R k F h) (fun a s1 => yEA fun σ1 h1 p1 => ?_) fun _ _ e => e) (B8 e)
 have k1 := k.post0 p1
 dsimp only at h1
 unfold Fo at h1
 split at h1
 ·rename_i i ei
  (refine zE (Al ei) fun t zq0 => ?_; subst zq0)
  refine spliced_more (wpAny_mono (hf ok.1.2 eo R k1 (F.post p1) h1) (fun b s2 => yEA fun σ2 h2 p2 => ?_) fun _ _ e => e) (B8 f)
  have k2 := k1.post0 p2
  dsimp only at h2
  split at h2
  ·rename_i i' ei'
   (refine zE (Al ei') fun u zq0 => ?_; subst zq0)
   refine spliced_more (wpAny_mono (hc ok.2 eo R k2 ((F.post p1).post p2) h2) (fun b s3 => yEA fun σ3 h3 p3 => spliced_none ?_) fun _ _ e => e) (B8 c)
   have k3 := k2.post0 p3
   dsimp only at h3
   split at h3
   ·rename_i i'' ei''
    (refine zE (Al ei'') fun v zq0 => ?_; subst zq0)
    (have zq0 := h3.1; have h4 := h3.2; refine zAA zq0 fun s1' s2' zq1 => ?_; subst zq1)
    have e0 := Py s1' s2'
    refine call_range_3 (by decide) ?_
    have j := Ah.junk (own := Aj) (σ := σ3) (tk := s3.toks) k3 (fun b ob e => Heap.get?_push_of_some ({ cls := .type "range", data := .fields #[.int i t, .int i' u, .int (-1) v] } : Obj) e)
    rw [Tv] at h4
    refine wpAny_mono (H8 (src := .range3 e f c q p) (s := { s3 with heap := _, toks := s3.toks }) R (Qg fun _ _ _ _ _ => rfl) (k3.post0 j) (Heap.get?_push_size _ rfl) e0.1 (by rw [e0.2]; simp) Tw h4) (fun it s4 => Ey fun I wr items g St σ4 r => ⟨I, wr, items, g, St, σ4, r.up (((p1.trans p2).trans p3).trans j)⟩) fun _ _ e => e
   ·exact h3.elim
  ·exact h2.elim
 ·exact h1.elim
theorem Wm (xs : List V) : Iz xs = (xs.mapIdx fun i x => (V.int i, x)).map fun v => [v.1, v.2] := by
 unfold Iz
 apply List.ext_getElem?
 intro i
 rw [List.getElem?_map, List.getElem?_mapIdx, List.getElem?_mapIdx, Option.map_map]; rfl
theorem Rh : ∀ (xs ys : List V), K9 xs ys = (xs.zip ys).map fun v => [v.1, v.2]
 | [], _ => by simp [K9]
 | _ :: _, [] => by simp [K9]
 | x :: xs, y :: ys => by
  have := Rh xs ys
  simp only [K9, List.zipWith_cons_cons, List.zip_cons_cons, List.map_cons] at this ⊢
  rw [this]
theorem U1 {src : Src} (h : ∀ i p, Do (.one i p) src = false) : ∀ t, Do t src = true → ∃ i pi j pj p, t = .two i pi j pj p := fun t ht => by
 cases t with
 | two i pi j pj p => exact E8 i pi j pj p rfl
 | one i p => rw [h i p] at ht; cases ht
include G in
theorem Vj {e : Ex} (he : Az prog w K h0 n e) (q p : Pos) : Dr prog w K h0 n (.enum e q p) := by
 intro env nm ρ σ Q s A E ok eo R k F h
 replace ok := bd2 ok
 refine wpAny_Call_Name_kw (Tt G eo k (eq_of_beq ok.1) (El (as := .cons e .nil) ?_))
 refine spliced_more (wpAny_mono (he ok.2 eo R k F h) (fun a s1 => yEA fun σ1 h1 p1 => spliced_none ?_) fun _ _ e => e) (B8 e)
 have k1 := k.post0 p1
 dsimp only at h1
 unfold Ka at h1
 split at h1
 ·rename_i x ex
  rw [Av ex]
  refine zEA h1 fun xs hx h1 => ?_
  refine A6 (k1.sat _ _ hx) fun xa gx exs hl => ?_
  have ltx : x < s1.heap.objs.size := by refine zE gx fun m gx => ?_; exact Heap.lt_size gx
  refine call_enumerate_list gx.isList fun h' hE hI hsz hkeep => ?_
  have nx1 : s1.heap.get? s1.heap.objs.size = none := get?_size _
  have nx2 : s1.heap.get? (s1.heap.objs.size + 1) = none := by
   cases e : s1.heap.get? (s1.heap.objs.size + 1) with
   | none => rfl
   | some o => exact absurd (Heap.lt_size e) (Nat.not_lt.mpr (Nat.le_succ _))
  generalize hIa : s1.heap.objs.size = Ia at hE hI nx1 nx2 ltx ⊢
  have hei : Ia + 1 ≠ Ia := Nat.succ_ne_self _
  have hle : x ≠ Ia + 1 := Nat.ne_of_lt (Nat.lt_succ_of_lt ltx)
  have hli : x ≠ Ia := Nat.ne_of_lt ltx
  have j := Ah.junk (own := Aj) (σ := σ1) (tk := s1.toks) k1 hkeep
  refine wpAny_pyIter_enum (s := { s1 with heap := h' }) hE (Du (Ia + 1) ([Ia + 1, Ia]) (Iz xs) (fun σ => σ x = some (.list xs)) (fun k h => (∃ old, IsEnum h (Ia + 1) Ia k old) ∧ h.IsListIter Ia x k) σ1 ?_)
  have fr : ∀ (k : Nat) (h h' : Heap), (∀ b ∈ [Ia + 1, Ia], ∀ o, h.get? b = some o → h'.get? b = some o) → ((∃ old, IsEnum h (Ia + 1) Ia k old) ∧ h.IsListIter Ia x k) → ((∃ old, IsEnum h' (Ia + 1) Ia k old) ∧ h'.IsListIter Ia x k) := fun k h h' hk st => by
   (refine zA st fun zq0 b => ?_; refine zE zq0 fun old a => ?_)
   exact ⟨⟨old, hk _ (.head _) _ a⟩, b.at fun o e => hk _ (.tail _ (.head _)) o e⟩
  have he' : ∀ (k : Nat) (h : Heap), ((∃ old, IsEnum h (Ia + 1) Ia k old) ∧ h.IsListIter Ia x k) → ∀ b ∈ [Ia + 1, Ia], ∃ o, h.get? b = some o := fun k h st b hb => by
   (refine zA st fun zq0 zq1 => ?_; refine zE zq0 fun old a => ?_; refine zEA zq1 fun o e _ => ?_)
   rcases List.mem_cons.mp hb with rfl | hb
   ·exact ⟨_, a⟩
   ·rw [List.mem_singleton.mp hb]; exact ⟨o, e⟩
  refine ⟨rfl, h1, p1.trans j, ?_, ⟨⟨_, hE⟩, hI⟩, fr, he', ?_, ?_⟩
  ·intro b hb
   rcases List.mem_cons.mp hb with rfl | hb
   ·exact ⟨p1.fresh0 nx2, k1.fresh nx2⟩
   ·rw [List.mem_singleton.mp hb]; exact ⟨p1.fresh0 nx1, k1.fresh nx1⟩
  ·intro k s Q E st q; (refine zA st fun zq0 _ => ?_; refine zE zq0 fun old a => ?_); exact wpAny_pyIter_enum a q
  ·intro env' nm' own' t ht eo' hok
   (refine Ph (U1 (fun _ _ => rfl) t ht) fun i pi j pj p zq0 => ?_; subst zq0)
   rw [Wm]
   refine Ot (Mid := fun k T h => (∃ x', IsEnumOut h (Ia + 1) Ia ((k : Int) + 1) x' T) ∧ h.IsListIter Ia x (k + 1)) R eo' hok fr he' ?_ ?_ ?_
   ·intro k v s' σ' Q' E' hv hg ok st hQ
    refine A6 (ok.sat _ _ hg) fun ya gy ey _ => ?_
    have W := WalksT.enumerate (prog := prog) (w := w) (A := A) R.handled (Ia + 1) Ia x hei hle hli ya
    rw [List.getElem?_mapIdx] at hv
    (refine zEA (Option.map_eq_some_iff.mp hv) fun v' hv' zq0 => ?_; subst zq0)
    rw [← ey, List.getElem?_map] at hv'
    refine zEA (Option.map_eq_some_iff.mp hv') fun u hu eu => ?_
    have hu' : ya[k]? = some u := by simpa using hu
    have hk : k < ya.size := by
     rcases Nat.lt_or_ge k ya.size with q | q
     ·exact q
     ·rw [Array.getElem?_eq_none q] at hu'; cases hu'
    refine W.item k s' Q' E' hk ⟨st.1, st.2, gy.isList⟩ fun T vals h2 tk hP hT ht hm keep => ?_
    (refine Ei hP fun t' x' ex' zq0 => ?_; subst zq0)
    rw [hu'] at ex'; cases ex'
    exact hQ T _ _ h2 tk rfl eu hT ht ⟨hm.1, hm.2.1⟩ (W.apart k T h2 hm) keep
   ·intro elts c pos k T s' Q' E' hm hQ
    (refine zA hm fun zq0 hit => ?_; refine zE zq0 fun x' ho => ?_)
    refine wpAny_letOwnedTupleGo_enum ho fun h2 he2 hs2 => hQ h2 ⟨⟨x', by simpa using he2⟩, hit.at fun o y => (hs2.2 Ia hei.symm).trans y⟩ fun b o hb y => ?_
    exact (hs2.2 b fun e' => hb (by simp [e'])).trans y
   ·intro s' σ' Q' E' hg ok st hQ
    refine A6 (ok.sat _ _ hg) fun ya gy ey _ => ?_
    have W := WalksT.enumerate (prog := prog) (w := w) (A := A) R.handled (Ia + 1) Ia x hei hle hli ya
    have : (List.mapIdx (fun i x => (V.int i, x)) xs).length = ya.size := by rw [List.length_mapIdx, ← ey]; simp
    rw [this] at st
    exact W.done s' Q' E' ⟨st.1, st.2, gy.isList⟩ hQ
 ·exact h1.elim
noncomputable def zSt (Ia x y : Addr) (v : Value) (k : Nat) (h : Heap) : Prop :=
 IsZip h (Ia + 4) (Ia + 2) (Ia + 3) v ∧ IsPair h (Ia + 2) (.ref Ia) (.ref (Ia + 1)) ∧ (∃ a b, IsPair h (Ia + 3) a b) ∧ h.IsListIter Ia x k ∧ h.IsListIter (Ia + 1) y k
theorem Ul {Ia x y : Addr} (k : Nat) (h h' : Heap) (hk : ∀ b ∈ [Ia + 4, Ia + 2, Ia + 3, Ia, Ia + 1], ∀ o, h.get? b = some o → h'.get? b = some o) (st : zSt Ia x y .none k h) : zSt Ia x y .none k h' := by
 (refine Dz st fun a1 a2 zq0 a4 a5 => ?_; refine zEE zq0 fun u v a3 => ?_)
 exact ⟨hk _ (by simp) _ a1, hk _ (by simp) _ a2, (iEE u v (hk _ (by simp) _ a3)), a4.at fun o e => hk _ (by simp) o e, a5.at fun o e => hk _ (by simp) o e⟩
theorem Um {Ia x y : Addr} (k : Nat) (h : Heap) (st : zSt Ia x y .none k h) : ∀ b ∈ [Ia + 4, Ia + 2, Ia + 3, Ia, Ia + 1], ∃ o, h.get? b = some o := fun b hb => by
 (refine Dz st fun a1 a2 zq0 zq1 zq2 => ?_; refine zEE zq0 fun u v a3 => ?_; refine zEA zq1 fun o4 a4 _ => ?_; refine zEA zq2 fun o5 a5 _ => ?_)
 simp only [List.mem_cons, List.not_mem_nil, or_false] at hb
 rcases hb with rfl | rfl | rfl | rfl | rfl
 ·exact ⟨_, a1⟩
 ·exact ⟨_, a2⟩
 ·exact ⟨_, a3⟩
 ·exact ⟨_, a4⟩
 ·exact ⟨_, a5⟩
include G in
theorem Xs {e f : Ex} (he : Az prog w K h0 n e) (hf : Az prog w K h0 n f) (q p : Pos) : Dr prog w K h0 n (.zip e f q p) := by
 intro env nm ρ σ Q s A E ok eo R k F h
 replace ok := bd3 ok
 refine wpAny_Call_Name_kw (Uk G eo k (eq_of_beq ok.1.1) (El (as := .cons e (.cons f .nil)) ?_))
 refine spliced_more (wpAny_mono (he ok.1.2 eo R k F h) (fun a s0 => yEA fun σ0 h0' p0 => ?_) fun _ _ e => e) (B8 e)
 have k0 := k.post0 p0
 refine spliced_more (wpAny_mono (hf ok.2 eo R k0 (F.post p0) h0') (fun b s1 => yEA fun σ1 h1 p1' => spliced_none ?_) fun _ _ e => e) (B8 f)
 have k1 := k0.post0 p1'
 have p1 := p0.trans p1'
 dsimp only at h1
 unfold Ka at h1
 split at h1
 ·rename_i x ex
  rw [Av ex]
  split at h1
  ·rename_i y ey0
   rw [Av ey0]
   (refine Ei h1 fun xs ys zq0 h1 => ?_; have hx := zq0.1; have hy := zq0.2)
   refine A6 (k1.sat _ _ hx) fun xa gx exs _ => ?_
   refine A6 (k1.sat _ _ hy) fun ya gy eys _ => ?_
   have ltx : x < s1.heap.objs.size := by refine zE gx fun m gx => ?_; exact Heap.lt_size gx
   have lty : y < s1.heap.objs.size := by refine zE gy fun m gy => ?_; exact Heap.lt_size gy
   refine call_zip_2 gx.isList gy.isList fun h' hZ hTI hTO hI1 hI2 hsz hkeep => ?_
   have nx : ∀ c, s1.heap.objs.size ≤ c → s1.heap.get? c = none := fun c hc => by
    cases e : s1.heap.get? c with
    | none => rfl
    | some o => exact absurd (Heap.lt_size e) (Nat.not_lt.mpr hc)
   generalize hIa : s1.heap.objs.size = Ia at hZ hTI hTO hI1 hI2 nx ltx lty ⊢
   have D : ZipApart (Ia + 4) (Ia + 2) (Ia + 3) Ia (Ia + 1) x y := by
    have hx' : @LT.lt Nat _ x Ia := ltx
    have hy' : @LT.lt Nat _ y Ia := lty
    constructor <;> (show @Ne Nat _ _; lia)
   have j := Ah.junk (own := Aj) (σ := σ1) (tk := s1.toks) k1 hkeep
   refine wpAny_pyIter_zip (s := { s1 with heap := h' }) hZ (Du (Ia + 4) ([Ia + 4, Ia + 2, Ia + 3, Ia, Ia + 1]) (K9 xs ys) (fun σ => σ x = some (.list xs) ∧ σ y = some (.list ys)) (zSt Ia x y .none) σ1 ?_)
   refine ⟨rfl, h1, p1.trans j, ?_, ⟨hZ, hTI, (iEE _ _ hTO), hI1, hI2⟩, Ul, Um, ?_, ?_⟩
   ·intro b hb
    have : s1.heap.get? b = none := by
     simp only [List.mem_cons, List.not_mem_nil, or_false] at hb
     rcases hb with rfl | rfl | rfl | rfl | rfl <;> exact nx _ (by first | exact Nat.le_refl _ | exact Nat.le_add_right _ _)
    exact ⟨p1.fresh0 this, k1.fresh this⟩
   ·intro k s Q E st q; exact wpAny_pyIter_zip st.1 q
   ·intro env' nm' own' t ht eo' hok
    (refine Ph (U1 (fun _ _ => rfl) t ht) fun i pi j pj p zq0 => ?_; subst zq0)
    rw [Rh]
    refine Ot (Mid := fun k T h => zSt Ia x y (rawInt T) (k + 1) h) R eo' hok Ul Um ?_ ?_ ?_
    ·intro k v s' σ' Q' E' hv hg ok st hQ
     refine A6 (ok.sat _ _ hg.1) fun xb gxb exb _ => ?_
     refine A6 (ok.sat _ _ hg.2) fun yb gyb eyb _ => ?_
     have W := WalksT.zip2 (prog := prog) (w := w) (A := A) R.handled (Ia + 4) (Ia + 2) (Ia + 3) Ia (Ia + 1) x y D xb yb
     rw [List.getElem?_zip_eq_some] at hv
     refine zA hv fun hv1 hv2 => ?_
     rw [← exb, List.getElem?_map] at hv1
     rw [← eyb, List.getElem?_map] at hv2
     refine zEA (Option.map_eq_some_iff.mp hv1) fun u hu eu => ?_
     refine zEA (Option.map_eq_some_iff.mp hv2) fun u' hu' eu' => ?_
     have hu : xb[k]? = some u := by simpa using hu
     have hu' : yb[k]? = some u' := by simpa using hu'
     have hk1 : k < xb.size := by
      rcases Nat.lt_or_ge k xb.size with q | q
      ·exact q
      ·rw [Array.getElem?_eq_none q] at hu; cases hu
     have hk2 : k < yb.size := by
      rcases Nat.lt_or_ge k yb.size with q | q
      ·exact q
      ·rw [Array.getElem?_eq_none q] at hu'; cases hu'
     refine Dz st fun a1 a2 a3 a4 a5 => ?_
     refine W.item k s' Q' E' (by lia) ⟨a1, a2, a3, a4, a5, gxb.isList, gyb.isList⟩ fun T vals h2 tk hP hT ht hm keep => ?_
     (refine Bv hP fun z1 z2 e1 e2 zq0 => ?_; subst zq0)
     rw [hu] at e1; cases e1
     rw [hu'] at e2; cases e2
     (refine Dy hm fun m1 m2 m3 m4 m5 _ _ zq0 => ?_; refine G1 zq0 fun m8 m9 m10 m11 => ?_)
     have hT2 : T ∉ [Ia + 4, Ia + 2, Ia + 3, Ia, Ia + 1] := fun hm' => by
      have : T = Ia + 2 := by
       simp only [List.mem_cons, List.not_mem_nil, or_false] at hm'
       rcases hm' with q | q | q | q | q
       ·exact absurd q m8
       ·exact q
       ·exact absurd q m9
       ·exact absurd q m10
       ·exact absurd q m11
      have lt := Heap.lt_size a2
      rw [this] at hT
      exact absurd lt (Nat.not_lt.mpr hT)
     exact hQ T _ _ h2 tk eu eu' hT ht ⟨m1, m2, m3, m4, m5⟩ hT2 fun b o hb e => keep b o (fun q => hb (by simp only [List.mem_cons, List.not_mem_nil, or_false] at q ⊢; rcases q with q | q | q | q <;> simp [q])) e
    ·intro elts c pos k T s' Q' E' hm hQ
     (refine Dz hm fun hz hTI' zq0 h1' h2' => ?_; refine zEE zq0 fun u v hTO' => ?_)
     refine wpAny_letOwnedTupleGo_zip hz fun h2 hz' hs' => hQ h2 ⟨hz', hs'.extBut _ _ D.TIz hTI', (iEE u v (hs'.extBut _ _ D.TOz hTO')), h1'.extBut hs'.extBut D.i1z, h2'.extBut hs'.extBut D.i2z⟩ fun c o hc e => hs'.extBut _ _ (fun x => hc (by simp [x])) e
    ·intro s' σ' Q' E' hg ok st hQ
     refine A6 (ok.sat _ _ hg.1) fun xb gxb exb _ => ?_
     refine A6 (ok.sat _ _ hg.2) fun yb gyb eyb _ => ?_
     have W := WalksT.zip2 (prog := prog) (w := w) (A := A) R.handled (Ia + 4) (Ia + 2) (Ia + 3) Ia (Ia + 1) x y D xb yb
     have : (xs.zip ys).length = min xb.size yb.size := by rw [List.length_zip, ← exb, ← eyb]; simp
     rw [this] at st
     refine Dz st fun a1 a2 a3 a4 a5 => ?_
     exact W.done s' Q' E' ⟨a1, a2, a3, a4, a5, gxb.isList, gyb.isList⟩ fun h2 tk keep => hQ h2 tk fun b o hb e => keep b o (fun q => hb (by simp only [List.mem_cons, List.not_mem_nil, or_false] at q ⊢; rcases q with q | q | q | q <;> simp [q])) e
  ·exact h1.elim
 ·exact h1.elim
end
section
variable {h0 : Heap} {prog : Program} {w : World} {K : Frag} {n : Nat}
theorem Nd {A : Around} {R : Result → Shared → Prop} {s : Shared} {elt target iter : Expr} {ifs : List Expr} {scope : Scope} {pos : Pos} {it acc : Value} {env : Env} (I : Nat → Shared → Prop)
  (turn : ∀ n s, I n s → ∀ E : Value → Shared → Prop, wpAny (model prog w) A (pyNext it) (fun r s₁ => match r with
   | none => R (.ok .next) s₁
   | some v => wpAny (model prog w) A (letOwnedTupleGo target it v) (fun _ s₁' => wpAny (model prog w) A (assign target env v) (fun _ s₂ =>
     wpAny (model prog w) A (forIn ifs true fun c r => if r = true then do let ok ← isTrue c env (eval c env); pure (ForInStep.yield ok) else pure (ForInStep.yield r)) (fun ok s₃ =>
      if ok = true then wpAny (model prog w) A (eval elt env) (fun x s₄ =>
       wpAny (model prog w) A (call (.builtin "list.append") [acc, x]) (fun _ s₅ => ∃ m, m < n ∧ I m s₅) E s₄) E s₃
      else ∃ m, m < n ∧ I m s₃) E s₂) E s₁') E s₁) E s)
  (n : Nat) (h : I n s) :
  codeAny (model prog w) A (.compLoop (.ListComp elt [⟨target, iter, ifs, 0⟩] scope pos) 0 it acc env) R s := by
 refine codeAny_loop rfl I (fun n s hI => ?_) n h
 show wpAny _ A ((compTurn (.ListComp elt [⟨target, iter, ifs, 0⟩] scope pos) 0 it acc env).onRaise (fun x => do noteFrame x env; theTreesLotGoes x)) _ _ s
 refine wpAny_noted ?_
 rw [compTurn_list]
 refine wpAny_bind (wpAny_standAt (wpAny_bind (wpAny_mono (turn n s hI _) (fun r s₁ h₁ => ?_) fun _ _ h' => h')))
 cases r with
 | none => exact wpAny_pure h₁
 | some v =>
  refine wpAny_bind (wpAny_mono h₁ (fun _ s₁' h₁' => ?_) fun _ _ h' => h')
  refine wpAny_bind (wpAny_mono h₁' (fun _ s₂ h₂ => wpAny_bind (wpAny_mono h₂ (fun ok s₃ h₃ => ?_) fun _ _ h' => h')) fun _ _ h' => h')
  cases ok with
  | false => exact wpAny_pure ⟨rfl, h₃⟩
  | true =>
   exact wpAny_bind (wpAny_bind (wpAny_mono h₃ (fun x s₄ h₄ => wpAny_bind (wpAny_mono h₄ (fun _ s₅ h₅ => wpAny_pure (wpAny_pure ⟨rfl, h₅⟩)) fun _ _ h' => h')) fun _ _ h' => h'))
theorem Q3 {env : Env} {scope : Scope} (hl : ∀ x, (x, NameKind.free) ∈ scope.names → ∃ c, env.cells.lookup x = some c) :
  ∃ cl, closureFor scope env = pure cl ∧ (∀ x c, (x, c) ∈ cl → env.cells.lookup x = some c) ∧ ∀ x, (x, NameKind.free) ∈ scope.names → ∃ c, (x, c) ∈ cl := by
 have core : ∀ (names : List (Str × NameKind)) (acc : List (Str × Addr)), (∀ x, (x, NameKind.free) ∈ names → ∃ c, env.cells.lookup x = some c) → (∀ x c, (x, c) ∈ acc → env.cells.lookup x = some c) →
   ∃ cl, (forIn names acc fun (x : Str × NameKind) (cs : List (Str × Addr)) => (if x.2 == NameKind.free then (cellOf env x.1 >>= fun c => pure (ForInStep.yield ((x.1, c) :: cs))) else pure (ForInStep.yield cs) : Sem _)) = pure cl ∧
    (∀ x c, (x, c) ∈ cl → env.cells.lookup x = some c) ∧ (∀ x c, (x, c) ∈ acc → (x, c) ∈ cl) ∧ ∀ x, (x, NameKind.free) ∈ names → ∃ c, (x, c) ∈ cl := by
  intro names
  induction names with
  | nil => intro acc _ ha; exact Ar acc rfl ha (fun _ _ h => h) (fun _ h => (nomatch h))
  | cons y r ih =>
   intro acc hl ha
   obtain ⟨y, k⟩ := y
   by_cases hk : k = .free
   ·subst hk
    refine zE (hl y (.head _)) fun c hc => ?_
    obtain ⟨cl, e, a1, a2, a3⟩ := ih ((y, c) :: acc) (fun x hx => hl x (.tail _ hx)) (fun x d hx => by
     rcases List.mem_cons.mp hx with e | hx
     ·cases e; exact hc
     ·exact ha x d hx)
    refine Ar cl ?_ a1 (fun x d hx => a2 x d (.tail _ hx)) (fun x hx => ?_)
    ·rw [List.forIn_cons]
     have : cellOf env y = pure c := by unfold cellOf; rw [hc]
     simp only [beq_self_eq_true, if_true, this, pure_bind]
     exact e
    ·rcases List.mem_cons.mp hx with e | hx
     ·cases e; exact ⟨c, a2 _ _ (.head _)⟩
     ·exact a3 x hx
   ·refine L3 (ih acc (fun x hx => hl x (.tail _ hx)) ha) fun cl e a1 a2 a3 => ?_
    refine Ar cl ?_ a1 a2 (fun x hx => ?_)
    ·rw [List.forIn_cons]
     have : (k == NameKind.free) = false := by simpa using hk
     simp only [this, Bool.false_eq_true, if_false, pure_bind]
     exact e
    ·rcases List.mem_cons.mp hx with e | hx
     ·cases e; exact absurd rfl hk
     ·exact a3 x hx
 refine L3 (core scope.names [] hl (fun _ _ h => nomatch h)) fun cl e a1 _ a3 => ?_
 refine Ay cl ?_ a1 a3
 unfold closureFor
 show (forIn scope.names [] _ >>= fun cs => pure cs) = pure cl
 rw [show (forIn scope.names [] fun (x : Str × NameKind) (cs : List (Str × Addr)) => _) = pure cl from e]
 rfl
theorem C9 {kd : Str → Option NameKind} : ∀ {names : List (Str × NameKind)} {x : Str} {k : NameKind}, names.lookup x = some k →
  (names.map fun (y : Str × NameKind) => if (y.2 == .free && kd y.1 == some .cell) then (y.1, NameKind.cell) else (y.1, y.2)).lookup x = some (if (k == .free && kd x == some .cell) then .cell else k)
 | [], _, _, h => by simp at h
 | (y, k') :: r, x, k, h => by
  rw [List.lookup_cons] at h
  rw [List.map_cons]
  cases hx : x == y with
  | true =>
   rw [hx] at h
   simp only [Option.some.injEq] at h; subst h
   have := beq_iff_eq.mp hx; subst this
   dsimp only
   split <;> simp
  | false =>
   rw [hx] at h
   have ih := C9 (kd := kd) (names := r) (x := x) (k := k) h
   dsimp only
   split <;> (rw [List.lookup_cons, hx]; exact ih)
theorem Gw {kd : Str → Option NameKind} : ∀ {names : List (Str × NameKind)} {x : Str}, (∀ y ∈ names, y.2 ≠ .cell) →
  (names.map fun (y : Str × NameKind) => if (y.2 == .free && kd y.1 == some .cell) then (y.1, NameKind.cell) else (y.1, y.2)).lookup x = some .cell → (x, NameKind.free) ∈ names
 | [], _, _, h => by simp at h
 | (y, k') :: r, x, hn, h => by
  rw [List.map_cons] at h
  dsimp only at h
  cases hx : x == y with
  | true =>
   have e := beq_iff_eq.mp hx; subst e
   by_cases hc : (k' == .free && kd x == some .cell) = true
   ·have : k' = .free := by simp only [Bool.and_eq_true, beq_iff_eq] at hc; exact hc.1
    rw [this]; exact .head _
   ·rw [if_neg hc, List.lookup_cons, hx] at h
    simp only [Option.some.injEq] at h
    exact absurd h (hn _ (.head _))
  | false =>
   have : (r.map fun (y : Str × NameKind) => if (y.2 == .free && kd y.1 == some .cell) then (y.1, NameKind.cell) else (y.1, y.2)).lookup x = some .cell := by
    split at h <;> (rw [List.lookup_cons, hx] at h; exact h)
   exact .tail _ (Gw (fun y hy => hn y (.tail _ hy)) this)
theorem Md {env : Env} {sc : Scope} {cl : List (Str × Addr)} {C : Addr} (hk : env.scope.kind = .function) : (compEnvC sc cl C env).kindOf = Dp env.kindOf sc := by
 funext x
 unfold Env.kindOf compEnvC relabel Dp
 simp only [hk, beq_self_eq_true, Bool.and_true]
 rfl
structure Xj (kd : Str → Option NameKind) (nm : List Str) (sc : Scope) (cn : List Str) (cap : List (Option Nat)) : Prop where
 fn : sc.kind = .function
 noCell : ∀ y ∈ sc.names, y.2 ≠ .cell
 loc : ∀ y ∈ sc.names, y.2 = .local → sc.names.lookup y.1 = some .local
 free : ∀ x, (x, NameKind.free) ∈ sc.names → kd x = some .cell
 nd : An cn = true
 capt : ∀ (i : Nat) x j, cn[i]? = some x → cap[i]? = some (some j) → j < nm.length ∧ Ac nm j = x ∧ (x, NameKind.free) ∈ sc.names ∧ sc.names.lookup x = some .free
 own : ∀ (i : Nat) x, cn[i]? = some x → cap[i]? = some none → sc.names.lookup x = some .local
 len : cn.length = cap.length
theorem Wu {kd : Str → Option NameKind} {nm : List Str} {sc : Scope} {cn : List Str} {cap : List (Option Nat)} (h : Oi kd nm sc cn cap = true) : Xj kd nm sc cn cap := by
 unfold Oi at h
 simp only [Bool.and_eq_true, beq_iff_eq, List.all_eq_true, bne_iff_ne, ne_eq, Bool.or_eq_true] at h
 (refine zA h fun zq0 h6 => ?_; refine zA zq0 fun zq1 h5 => ?_; refine zA zq1 fun zq2 h4 => ?_; refine zA zq2 fun zq3 h3 => ?_; refine zA zq3 fun h1 h2 => ?_)
 have z : ∀ (i : Nat) x c, cn[i]? = some x → cap[i]? = some c → (x, c) ∈ cn.zip cap := fun i x c e1 e2 => List.mem_of_getElem? (i := i) (by rw [List.getElem?_zip_eq_some]; exact ⟨e1, e2⟩)
 refine ⟨h1, fun y hy => (h3 y hy).1.1, fun y hy e => ?_, fun x hx => ?_, h4, fun i x j e1 e2 => ?_, fun i x e1 e2 => ?_, h5⟩
 ·exact ((h3 y hy).1.2).resolve_left (fun q => q e)
 ·exact ((h3 _ hx).2).resolve_left (fun q => q rfl)
 ·have := h6 _ (z i x _ e1 e2)
  simp only [Bool.and_eq_true, decide_eq_true_eq, beq_iff_eq] at this
  exact ⟨this.1.1, this.1.2, mem_of_lookup (α := NameKind) this.2, this.2⟩
 ·have := h6 _ (z i x _ e1 e2)
  simpa using this
theorem D5 {cl : List (Str × Addr)} {x : Str} {c : Addr} (h : (x, c) ∈ cl) : ∃ d, cl.lookup x = some d ∧ (x, d) ∈ cl := by
 induction cl with
 | nil => cases h
 | cons y r ih =>
  obtain ⟨y, d⟩ := y
  rw [List.lookup_cons]
  cases hx : x == y with
  | true => have := beq_iff_eq.mp hx; subst this; exact iEA d rfl (.head _)
  | false =>
   rcases List.mem_cons.mp h with e | h
   ·cases e; simp at hx
   ·refine zEA (ih h) fun d' e m => ?_; exact iEA d' e (.tail _ m)
theorem Wt {env : Env} {nm : List Str} {ρ : Loc} {σ : Aa} {h : Heap} {sc : Scope} {cn : List Str} {cap : List (Option Nat)} {cl : List (Str × Addr)} {C : Addr} (eo : Ax h0 env) (F : Fm env nm ρ σ h) (ck : Xj env.kindOf nm sc cn cap)
  (hcl : ∀ x c, (x, c) ∈ cl → env.cells.lookup x = some c) (hfr : ∀ x, (x, NameKind.free) ∈ sc.names → ∃ c, (x, c) ∈ cl) (hC : Bs h0 C) (hCn : ∀ a, Ab env a → a ≠ C) (hCσ : σ C = none) (hns : h.Ns C fun _ => none) :
  Ax h0 (compEnvC sc cl C env) ∧ Fm (compEnvC sc cl C env) cn (Mine.capt cap ρ) σ h := by
 have own : ∀ x c, (x, c) ∈ cl → Ab env c := fun x c m => .inr ⟨x, mem_of_lookup (hcl x c m)⟩
 have kd := Md (sc := sc) (cl := cl) (C := C) eo.kind
 have lk : ∀ x, (compEnvC sc cl C env).kindOf x = some .cell → ∃ c, cl.lookup x = some c := fun x e => by
  rw [kd] at e
  have := Gw (kd := env.kindOf) ck.noCell e
  refine zE (hfr x this) fun c hc => ?_
  refine zEA (D5 hc) fun d e _ => ?_
  exact ⟨d, e⟩
 refine ⟨⟨ck.fn, eo.glob, eo.bi, hC, fun x c m => eo.own c (own x c m), lk, fun x c m => Ne.symm (hCn c (own x c m))⟩, iEA _ hns (fun i x v e1 e2 e3 => ?_), fun i x v e1 e2 e3 => ?_, fun x c m => ?_, fun a ha => ?_⟩
 ·exfalso
  unfold Mine.capt at e3
  rw [List.getD_eq_getElem?_getD, List.getElem?_map] at e3
  cases hc : cap[i]? with
  | none => rw [hc] at e3; cases e3
  | some o =>
   rw [hc] at e3
   cases o with
   | none => cases e3
   | some j =>
    refine G1 (ck.capt i x j e1 hc) fun _ _ m1 m2 => ?_
    rw [kd] at e2
    have := C9 (kd := env.kindOf) m2
    unfold Dp at e2
    have e2' : some (if (NameKind.free == .free && env.kindOf x == some .cell) = true then NameKind.cell else .free) = some .local := this.symm.trans e2
    split at e2' <;> cases e2'
 ·unfold Mine.capt at e3
  rw [List.getD_eq_getElem?_getD, List.getElem?_map] at e3
  cases hc : cap[i]? with
  | none => rw [hc] at e3; cases e3
  | some o =>
   rw [hc] at e3
   cases o with
   | none => cases e3
   | some j =>
    refine G1 (ck.capt i x j e1 hc) fun j1 j2 m1 m2 => ?_
    have e3' : ρ.getD j none = some v := e3
    refine Bv (F.cell j x v (by rw [Cj j1, j2]) (ck.free x m1) e3') fun c u c1 c2 c3 => ?_
    refine zE (hfr x m1) fun d hd => ?_
    refine zEA (D5 hd) fun d' e m => ?_
    have := hcl x d' m
    rw [c1] at this; cases this
    exact Ba _ u e c2 c3
 ·exact F.any x c (mem_of_lookup (hcl x c m))
 ·rcases ha with rfl | ⟨x, m⟩
  ·exact hCσ
  ·exact F.off a (own x a m)
theorem Fm.weaken {env : Env} {nm : List Str} {ρ ρ' : Loc} {σ : Aa} {h : Heap} (f : Fm env nm ρ σ h) (hw : ∀ i v, ρ'.getD i none = some v → ρ.getD i none = some v) : Fm env nm ρ' σ h := by
 refine zEA f.ns fun m hn hm => ?_
 exact ⟨iEA m hn (fun i x v e1 e2 e3 => hm i x v e1 e2 (hw i v e3)), fun i x v e1 e2 e3 => f.cell i x v e1 e2 (hw i v e3), f.any, f.off⟩
theorem J9 {t : Tg} {it : List V} {ρ : Loc} (hn : match t with | .one i _ => ρ.getD i none = none | .two i _ j _ _ => ρ.getD i none = none ∧ ρ.getD j none = none) : ∀ i v, ρ.getD i none = some v → (D4 t it ρ).getD i none = some v := by
 intro i v e
 cases t with
 | one j p =>
  have q : j ≠ i := fun q => by subst q; dsimp only at hn; rw [hn] at e; cases e
  cases it with
  | nil => exact e
  | cons u l => cases l with
   | nil => exact (Cm q).trans e
   | cons _ _ => exact e
 | two j p k q r =>
  have q1 : j ≠ i := fun q => by subst q; dsimp only at hn; rw [hn.1] at e; cases e
  have q2 : k ≠ i := fun q => by subst q; dsimp only at hn; rw [hn.2] at e; cases e
  cases it with
  | nil => exact e
  | cons u l => cases l with
   | nil => exact e
   | cons u' l => cases l with
    | nil => exact (Cm q2).trans ((Cm q1).trans e)
    | cons _ _ => exact e
theorem Ah.unk {own : Addr → Prop} {σ σ' : Aa} {s s' : Shared} (p : Ah h0 own σ s σ' s') {a : Addr} (h : σ a = none) (l : ∃ o, s.heap.get? a = some o) : σ' a = none := by
 cases e : σ' a with
 | none => rfl
 | some x =>
  refine zE l fun o ho => ?_
  rcases p.dom a (by rw [e]; simp) with z | z
  ·exact absurd h z
  ·rw [ho] at z; cases z
theorem Ah.stays {own : Addr → Prop} {σ σ' : Aa} {s s' : Shared} (p : Ah h0 own σ s σ' s') {a : Addr} (h : σ a = .none) (ho : ¬ own a) {o : Obj} (e : s.heap.get? a = some o) : s'.heap.get? a = some o := p.keep a o e (.inl h) ho
theorem Tz {A : Around} {cenv : Env} {cn : List Str} {ρc : Loc} {elt : Expr} {iterE : Expr} {ifs : List Expr} {sc : Scope} {pos : Pos} {tg : Tg} {I D : Addr} {wr : List Addr} {items : List (List V)} {g : Aa → Prop} {St : Nat → Heap → Prop} {J : Nat → List V → Aa → Prop}
  {R : Result → Shared → Prop} {σ2 : Aa} {s2 : Shared}
  (W : N6 prog w A h0 cenv cn (fun a => a = cenv.locals) tg I wr items g St) (eo : Ax h0 cenv) (hz : items.length ≤ LIM)
  (frame : ∀ k h h', (∀ b ∈ wr, ∀ o, h.get? b = some o → h'.get? b = some o) → St k h → St k h') (here : ∀ k h, St k h → ∀ b ∈ wr, ∃ o, h.get? b = some o)
  (hwr : ∀ b ∈ wr, ¬ Ab cenv b ∧ Bs h0 b) (hDC : ¬ Ab cenv D) (hDw : D ∉ wr) (hDb : Bs h0 D)
  (htg : match tg with | .one i _ => ρc.getD i none = none | .two i _ j _ _ => ρc.getD i none = none ∧ ρc.getD j none = none)
  (hJ : ∀ k acc σ, J k acc σ → g σ ∧ acc.length ≤ k)
  (hstep : ∀ k acc σ it (s : Shared) (E : Value → Shared → Prop), J k acc σ → items[k]? = some it → Ok h0 σ s → Fm cenv cn (D4 tg it ρc) σ s.heap →
   wpAny (model prog w) A (forIn ifs true fun c r => if r = true then do let ok ← isTrue c cenv (eval c cenv); pure (ForInStep.yield ok) else pure (ForInStep.yield r))
    (fun ok s3 => if ok = true then wpAny (model prog w) A (eval elt cenv) (fun x s4 => ∃ σ4, J (k + 1) (acc ++ [Af x]) σ4 ∧ Ah h0 Aj σ s σ4 s4) E s3 else ∃ σ3, J (k + 1) acc σ3 ∧ Ah h0 Aj σ s σ3 s3) E s)
  (hfin : ∀ acc σ' s1 s' xs, J items.length acc σ' → Ok h0 σ' s' → s'.heap.PlainList D xs → xs.toList.map Af = acc → acc.length ≤ items.length → σ' D = none → Fm cenv cn ρc σ' s'.heap → Ah h0 (fun a => a = cenv.locals ∨ a ∈ wr ∨ a = D) σ2 s2 σ' s1 →
   (∀ b o, b ∉ wr → s1.heap.get? b = some o → s'.heap.get? b = some o) → s'.os = s1.os → s'.gens = s1.gens → R (.ok .next) s')
  (start : J 0 [] σ2 ∧ Ok h0 σ2 s2 ∧ Fm cenv cn ρc σ2 s2.heap ∧ St 0 s2.heap ∧ s2.heap.PlainList D #[] ∧ (∀ b ∈ wr, σ2 b = none) ∧ σ2 D = none) :
  codeAny (model prog w) A (.compLoop (.ListComp elt [⟨I3 cn tg, iterE, ifs, 0⟩] sc pos) 0 (.ref I) (.ref D) cenv) R s2 := by
 refine Dc start fun t1 t2 t3 t4 t5 t6 t7 => ?_
 refine Nd (fun m s' => ∃ k acc σ' xs, k ≤ items.length ∧ m = items.length + 1 - k ∧ J k acc σ' ∧ Ok h0 σ' s' ∧ Fm cenv cn ρc σ' s'.heap ∧ St k s'.heap ∧ s'.heap.PlainList D xs ∧ xs.toList.map Af = acc ∧ (∀ b ∈ wr, σ' b = none) ∧ σ' D = none ∧
  Ah h0 (fun a => a = cenv.locals ∨ a ∈ wr ∨ a = D) σ2 s2 σ' s') ?_ (items.length + 1) (Bb 0 ([]) σ2 (#[]) (Nat.zero_le _) rfl t1 t2 t3 t4 t5 rfl t6 ⟨t7, .refl t2⟩)
 (refine fun m s' => D0 fun k acc σ' xs zq0 => ?_; refine Cc zq0 fun hk zq1 hj ok F st hD hxs hw zq2 => ?_; subst zq1; refine zA zq2 fun hDn P => ?_; refine fun E => ?_)
 refine zA (hJ _ _ _ hj) fun hg hlen => ?_
 have hw' : ∀ b ∈ wr, σ' b = none ∧ ¬ Ab cenv b ∧ Bs h0 b := fun b hb => ⟨hw b hb, (hwr b hb).1, (hwr b hb).2⟩
 rcases Nat.lt_or_ge k items.length with hlt | hge
 ·have hit : items[k]? = some items[k] := List.getElem?_eq_getElem hlt
  refine W.turn k s' σ' ρc _ (fun s1 => R (.ok .next) s1) _ E hit hg ok F hw' st fun s3 ok3 F3 st3 P3 => ?_
  ·have hD3 : s3.heap.PlainList D xs := hD.at fun o e => P3.stays hDn (fun q => by rcases q with q | q; exact hDC (.inl q); exact hDw q) e
   refine wpAny_mono (hstep k acc σ' _ s3 E hj hit ok3 F3) (fun b s4 h4 => ?_) fun _ _ e => e
   cases b with
   | false =>
    simp only [Bool.false_eq_true, if_false] at h4 ⊢
    refine zEA h4 fun σ4 j4 P4 => ?_
    refine iEA (items.length + 1 - (k + 1)) (o63 hlt) (Bb (k + 1) acc σ4 xs hlt rfl j4 (ok3.post0 P4) ((F3.post P4).weaken (J9 htg)) ?_ ?_ hxs (fun b hb => P4.unk (hw b hb) (here _ _ st3 b hb)) ⟨P4.unk hDn (by refine zE hD3 fun n e => ?_; exact ⟨_, e⟩), ?_⟩)
    ·exact frame _ _ _ (fun b hb o e => P4.stays (hw b hb) id e) st3
    ·exact hD3.at fun o e => P4.stays hDn id e
    ·exact P.trans ((P3.widen fun a q => by rcases q with q | q; exact .inl q; exact .inr (.inl q)).trans P4.wide)
   | true =>
    simp only [if_true] at h4 ⊢
    refine wpAny_mono h4 (fun x s5 h5 => ?_) fun _ _ e => e
    refine zEA h5 fun σ4 j4 P4 => ?_
    have hD4 : s5.heap.PlainList D xs := hD3.at fun o e => P4.stays hDn id e
    have hD4n : σ4 D = none := P4.unk hDn (by refine zE hD3 fun n e => ?_; exact ⟨_, e⟩)
    have ok4 := ok3.post0 P4
    have hxl : xs.size = acc.length := by rw [← hxs]; simp
    have hz' : items.length ≤ 16777216 := hz
    refine wpAny_list_append_plain hD4 (fun h6 hD6 hs6 => ?_) (by rw [sizeLine_eq]; exact ln 0x22222210000007fb0010000007fb301023212104 [xs.size, acc.length, k, items.length] hlen hlt hxl hz')
    have P6 : Ah h0 (fun a => a = cenv.locals ∨ a ∈ wr ∨ a = D) σ4 s5 σ4 { s5 with heap := h6 } := .own (tk := s5.toks) ok4 hD4n (.inr (.inr rfl)) hs6 (by refine zE hD6 fun n e => ?_; exact ⟨_, e⟩)
    refine iEA (items.length + 1 - (k + 1)) (o63 hlt) (Bb (k + 1) (acc ++ [Af x]) σ4 (xs.push x) hlt rfl j4 (ok4.post P6 ?_) ?_ ?_ hD6 (by rw [Array.toList_push, List.map_append, hxs]; rfl) ?_ ⟨hD4n, ?_⟩)
    ·intro a ha
     rcases ha with rfl | ha | rfl
     ·exact eo.loc
     ·exact (hwr a ha).2
     ·exact hDb
    ·refine ((F3.post P4).weaken (J9 htg)).mono fun a ha o e => (hs6.2 a fun q => hDC (q ▸ ha)).trans e
    ·exact frame _ _ _ (fun b hb o e => (hs6.2 b fun q => hDw (q ▸ hb)).trans (P4.stays (hw b hb) id e)) st3
    ·exact fun b hb => P4.unk (hw b hb) (here _ _ st3 b hb)
    ·exact P.trans (((P3.widen fun a q => by rcases q with q | q; exact .inl q; exact .inr (.inl q)).trans P4.wide).trans P6)
 ·have hke : k = items.length := Nat.le_antisymm hk hge
  subst hke
  refine W.done s' σ' ρc (fun s3 => R (.ok .next) s3) _ E hg ok F hw' st fun s3 ok3 F3 hlv hkeep ho hgn => ?_
  exact hfin acc σ' s' s3 xs hj ok3 (hD.at fun o e => hkeep D o hDw e) hxs hlen hDn F3 P hkeep ho hgn
theorem Ah.ended {own own' : Addr → Prop} {wr : List Addr} {σ σ2 σ' : Aa} {s s2 s1 s' : Shared} (P0 : Ah h0 Aj σ s σ2 s2) (P1 : Ah h0 own σ2 s2 σ' s1) (ok : Ok h0 σ' s') (hkeep : ∀ b o, b ∉ wr → s1.heap.get? b = some o → s'.heap.get? b = some o) (ho : s'.os = s1.os) (hg : s'.gens = s1.gens)
  (hw : ∀ b ∈ wr, s.heap.get? b = none) (hown : ∀ a, own a → own' a ∨ s.heap.get? a = none) : Ah h0 own' σ s σ' s' := by
 have P : Ah h0 own σ s σ' s1 := P0.wide.trans P1
 have nw : ∀ a o, s.heap.get? a = some o → a ∉ wr := fun a o e q => by rw [hw a q] at e; cases e
 refine ⟨ok.sat, fun a o e h1 h2 => hkeep a o (nw a o e) (P.keep a o e h1 fun q => ?_), fun a o e => ?_, P.dom, ho.trans P.os, hg.trans P.gens⟩
 ·rcases hown a q with q | q
  ·exact h2 q
  ·rw [q] at e; cases e
 ·refine zE (P.live a o e) fun o' e' => ?_
  exact ⟨o', hkeep a o' (nw a o e) e'⟩
theorem Kp {kd : Str → Option NameKind} {nm : List Str} {sc : Scope} {cn : List Str} {cap : List (Option Nat)} {ρ : Loc} {i : Nat} (ck : Xj kd nm sc cn cap) (hi : i < cn.length) (h : Dp kd sc (Ac cn i) = some .local) : (Mine.capt cap ρ).getD i none = none := by
 unfold Mine.capt
 rw [List.getD_eq_getElem?_getD, List.getElem?_map]
 cases hc : cap[i]? with
 | none => rfl
 | some o =>
  cases o with
  | none => rfl
  | some j =>
   refine G1 (ck.capt i _ j (Cj hi) hc) fun _ _ m1 m2 => ?_
   have := C9 (kd := kd) m2
   unfold Dp at h
   have e2' : some (if (NameKind.free == .free && kd (Ac cn i) == some .cell) = true then NameKind.cell else .free) = some .local := this.symm.trans h
   split at e2' <;> cases e2'
theorem G8 {nm : List Str} {env : Env} (src : Src) (x : Value) : foldedSetIterable (Ee nm src) env x = pure x := by
 cases src with
 | lst e => cases e <;> rfl
 | _ => rfl
structure Dw (h0 : Heap) (σ : Aa) (s : Shared) (acc : List V) (D C : Addr) (σ' : Aa) (s3 : Shared) : Prop where
 post : Ah h0 Aj σ s σ' s3
 list : ∃ xs, s3.heap.PlainList D xs ∧ xs.toList.map Af = acc
 len : acc.length ≤ LIM
 dn : σ' D = none
 df : s.heap.get? D = none
 cf : s.heap.get? C = none
 ns : ∃ m, s3.heap.Ns C m
 cn : σ' C = none
 cd : C ≠ D
theorem Me {env : Env} {nm : List Str} {ρ : Loc} {σ : Aa} {s : Shared} {A : Around} {E : Value → Shared → Prop} {elt : Expr} {ifs : List Expr} {tg : Tg} {src : Src} {sc : Scope} {cn : List Str} {cap : List (Option Nat)} {p pos' : Pos} {use : Option (Value → Sem Unit)} {Ψ : Value → Shared → Prop} {Q : V → Aa → Prop}
  {STEP : List (List V) → (Nat → List V → Aa → Prop) → Prop}
  (hsrc : Dr prog w K h0 n src) (oks : L7 env.kindOf nm src = true) (htk : Do tg src = true) (okc : Oi env.kindOf nm sc cn cap = true) (okt : Oh (Dp env.kindOf sc) cn tg = true)
  (eo : Ax h0 env) (R : Cy A n) (k : Ok h0 σ s) (F : Fm env nm ρ σ s.heap)
  {Q0 : List (List V) → (Aa → Prop) → Aa → Prop} (h : L5 (Bs h0) (Am prog w K h0 n) src ρ σ Q0)
  (hQ : ∀ items g σ, Q0 items g σ → items.length ≤ LIM ∧ ∃ J : Nat → List V → Aa → Prop, J 0 [] σ ∧ (∀ k acc σ, J k acc σ → g σ ∧ acc.length ≤ k) ∧ STEP items J ∧ (∀ acc σ, J items.length acc σ → Co (Bs h0) (.list acc) σ Q))
  (hstep : ∀ (cenv : Env) items J, cenv.kindOf = Dp env.kindOf sc → Ax h0 cenv → STEP items J → ∀ k acc σ it (s : Shared) (E : Value → Shared → Prop), J k acc σ → items[k]? = some it → Ok h0 σ s → Fm cenv cn (D4 tg it (Mine.capt cap ρ)) σ s.heap →
   wpAny (model prog w) A (forIn ifs true fun c r => if r = true then do let ok ← isTrue c cenv (eval c cenv); pure (ForInStep.yield ok) else pure (ForInStep.yield r))
    (fun ok s3 => if ok = true then wpAny (model prog w) A (eval elt cenv) (fun x s4 => ∃ σ4, J (k + 1) (acc ++ [Af x]) σ4 ∧ Ah h0 Aj σ s σ4 s4) E s3 else ∃ σ3, J (k + 1) acc σ3 ∧ Ah h0 Aj σ s σ3 s3) E s)
  (hend : ∀ acc σ' s3 D C, Dw h0 σ s acc D C σ' s3 → Co (Bs h0) (.list acc) σ' Q → compPost (model prog w) A E use Ψ (.ref D) C (.ok .next) s3) :
  wpAny (model prog w) A (comprehension (.ListComp elt [⟨I3 cn tg, Ee nm src, ifs, 0⟩] sc p) sc env pos' (newList []) false (eval (Ee nm src) env) use) Ψ E s := by
 have ck := Wu okc
 refine A6 (Q3 (env := env) (scope := sc) fun x hx => eo.lk x (ck.free x hx)) fun cl hclos hcl hfr => ?_
 refine wpAny_comprehension_free rfl (G8 src) hclos ck.fn ck.loc (wpAny_mono (hsrc (E := E) oks eo R k F h) (fun x s1 h1 => wpAny_mono h1 (fun it s2 h2 => ?_) fun _ _ e => e) fun _ _ e => e)
 refine Jj h2 fun I wr items g St σ2 r => ?_
 refine Ml (hQ _ _ _ r.q) fun hlim J j0 jg jstep jfin => ?_
 rw [r.it]
 have ok2 := k.post0 r.post
 refine wpAny_newList ?_ (Nat.zero_le _)
 refine wpAny_newFunctionEnv (fun y hy => ck.noCell y hy) (fun x hx => nomatch hx) (fun h4 hns hsb => ?_) ck.fn
 have hD : s2.heap.get? s2.heap.objs.size = none := get?_size _
 have hC3 := get?_size (s2.heap.push { cls := .type "list", data := .seq #[] })
 have kp : ∀ b o, s2.heap.get? b = some o → h4.get? b = some o := fun b o e => by
  have e1 := Heap.get?_push_of_some ({ cls := .type "list", data := .seq #[] } : Obj) e
  have e2 := Heap.get?_push_of_some ({ cls := .type "dict", data := .dict #[] } : Obj) e1
  exact (hsb.2 b fun q => by rw [q, hC3] at e1; cases e1).trans e2
 have hDat : h4.PlainList s2.heap.objs.size #[] := by
  refine ⟨0, ?_⟩
  have e1 : (s2.heap.push { cls := .type "list", data := .seq #[] }).get? s2.heap.objs.size = some { cls := .type "list", data := .seq #[] } := Heap.get?_push_size _ rfl
  exact (hsb.2 _ fun q => by rw [← q, e1] at hC3; cases hC3).trans (Heap.get?_push_of_some ({ cls := .type "dict", data := .dict #[] } : Obj) e1)
 generalize hDe : s2.heap.objs.size = D at *
 generalize hCe : (s2.heap.push { cls := .type "list", data := .seq #[] }).objs.size = C at *
 have hC2 : s2.heap.get? C = none := by
  cases e : s2.heap.get? C with
  | none => rfl
  | some o => rw [Heap.get?_push_of_some _ e] at hC3; cases hC3
 have hCD : C ≠ D := fun q => by
  have e1 : (s2.heap.push { cls := .type "list", data := .seq #[] }).get? D = some { cls := .type "list", data := .seq #[] } := by rw [← hDe]; exact Heap.get?_push_size _ rfl
  rw [← q, hC3] at e1; cases e1
 have P2 : Ah h0 Aj σ2 s2 σ2 { s2 with heap := h4, toks := s2.toks + 0 } := .junk ok2 kp
 have ok4 := ok2.post0 P2
 have F2 := F.post r.post
 have F4 := F2.post P2
 have own2 : ∀ a, Ab env a → ∃ o, s2.heap.get? a = some o := fun a ha => by
  rcases ha with rfl | ⟨x, hc⟩
  ·(refine zEA F2.ns fun m zq0 _ => ?_; refine It zq0 fun o _ _ q _ => ?_); exact ⟨o, q⟩
  ·refine Ei (F2.any x a hc) fun v o q _ => ?_; exact ⟨o, q⟩
 have own0 : ∀ a, Ab env a → ∃ o, s.heap.get? a = some o := fun a ha => by
  rcases ha with rfl | ⟨x, hc⟩
  ·(refine zEA F.ns fun m zq0 _ => ?_; refine It zq0 fun o _ _ q _ => ?_); exact ⟨o, q⟩
  ·refine Ei (F.any x a hc) fun v o q _ => ?_; exact ⟨o, q⟩
 refine zA (Wt (C := C) (cl := cl) eo F4 ck hcl hfr (ok2.bs hC2) (fun a ha q => by refine zE (own2 a ha) fun o e => ?_; rw [q, hC2] at e; cases e) (ok2.fresh hC2) hns) fun eoc Fc => ?_
 have kd := Md (sc := sc) (cl := cl) (C := C) eo.kind
 show codeAny _ _ (.compStart _ 0 (.ref I) (.ref D) (compEnvC sc cl C env)) (compPost _ _ _ _ _ (.ref D) C) _
 have st4 : St 0 h4 := r.frame _ _ _ (fun b hb o e => kp b o e) r.start
 have wr2 : ∀ b ∈ wr, ∃ o, s2.heap.get? b = some o := r.here _ _ r.start
 have wrD : D ∉ wr := fun q => by refine zE (wr2 D q) fun o e => ?_; rw [hD] at e; cases e
 have clo : ∀ x c, (x, c) ∈ cl → Ab env c := fun x c m => .inr ⟨x, mem_of_lookup (hcl x c m)⟩
 have L : codeAny (model prog w) A (.compLoop (.ListComp elt [⟨I3 cn tg, Ee nm src, ifs, 0⟩] sc p) 0 (.ref I) (.ref D) (compEnvC sc cl C env)) (compPost (model prog w) A E use Ψ (.ref D) C) { s2 with heap := h4, toks := s2.toks + 0 } := by
  refine Tz (r.iter (compEnvC sc cl C env) cn _ tg htk eoc (cY eoc ck.nd (by rw [kd]; exact okt))) eoc hlim r.frame r.here (fun b hb => ⟨fun q => ?_, ?_⟩) (fun q => ?_) wrD (ok2.bs hD) ?_ jg (hstep _ items J kd eoc jstep) ?_ ⟨j0, ok4, Fc, st4, hDat, fun b hb => (r.fresh b hb).2, ok2.fresh hD⟩
  ·rcases q with q | ⟨x, q⟩
   ·refine zE (wr2 _ hb) fun o e => ?_
    have q' : b = C := q
    rw [q', hC2] at e; cases e
   ·refine zE (own0 b (clo x b q)) fun o e => ?_
    rw [(r.fresh b hb).1] at e; cases e
  ·exact k.bs (r.fresh b hb).1
  ·rcases q with q | ⟨x, q⟩
   ·exact hCD q.symm
   ·refine zE (own2 D (clo x D q)) fun o e => ?_
    rw [hD] at e; cases e
  ·cases tg with
   | one i p =>
    simp only [Oh, Bool.and_eq_true, decide_eq_true_eq, beq_iff_eq] at okt
    exact Kp ck okt.1 okt.2
   | two i pi j pj p =>
    simp only [Oh, Bool.and_eq_true, decide_eq_true_eq, beq_iff_eq] at okt
    exact ⟨Kp ck okt.1.1.1 okt.1.1.2, Kp ck okt.1.2 okt.2⟩
  ·intro acc σ' s1 s' xs hj ok' hD' hxs hlen hDn Fc' P hkeep hos hgens
   have P0 : Ah h0 Aj σ s σ2 { s2 with heap := h4, toks := s2.toks + 0 } := r.post.trans P2
   have Pf : Ah h0 Aj σ s σ' s' := P0.ended P ok' hkeep hos hgens (fun b hb => (r.fresh b hb).1) fun a ha => .inr (by
    rcases ha with rfl | ha | rfl
    ·exact r.post.fresh0 hC2
    ·exact (r.fresh a ha).1
    ·exact r.post.fresh0 hD)
   refine zEA Fc'.ns fun m' hm' _ => ?_
   exact hend acc σ' s' D C ⟨Pf, iEA xs hD' hxs, Nat.le_trans hlen hlim, hDn, r.post.fresh0 hD, r.post.fresh0 hC2, ⟨m', hm'⟩, Fc'.off _ (.inl rfl), hCD⟩ (jfin acc σ' hj)
 exact codeAny_compStart_list L (r.self 0 _ _ _ st4 L)
theorem Dw.val {σ σ' : Aa} {s s3 : Shared} {acc : List V} {D C : Addr} {Q : V → Aa → Prop} {A : Around} {E : Value → Shared → Prop} (k : Ok h0 σ s) (f : Dw h0 σ s acc D C σ' s3) (h : Co (Bs h0) (.list acc) σ' Q) :
  compPost (model prog w) A E none (Rs h0 Q σ s) (.ref D) C (.ok .next) s3 := by
 refine zEA f.list fun xs hD hxs => ?_
 refine zE f.ns fun m hm => ?_
 refine iEA m hm (fun h' hs => iEA (σ'.put D (.list acc)) (h D _ (k.bs f.df) f.dn (Gm f.dn) (Aa.put_self ..)) ?_)
 have hD' : h'.PlainList D xs := hD.at fun o e => (hs.2 D (Ne.symm f.cd)).trans e
 refine ⟨fun a x e => ?_, fun a o e h1 h2 => ?_, fun a o e => ?_, fun a ha => ?_, f.post.os, f.post.gens⟩
 ·by_cases q : a = D
  ·subst q; rw [Aa.put_self] at e; cases e; exact Ay xs hD' hxs f.len
  ·rw [Aa.put_ne _ _ q] at e
   exact (f.post.sat a x e).at' fun _ e' => (hs.2 a fun z => by subst z; rw [f.cn] at e; cases e).trans e'
 ·exact (hs.2 a fun z => by subst z; rw [f.cf] at e; cases e).trans (f.post.keep a o e h1 h2)
 ·refine zE (f.post.live a o e) fun o' e' => ?_
  exact ⟨o', (hs.2 a fun z => by subst z; rw [f.cf] at e; cases e).trans e'⟩
 ·by_cases q : a = D
  ·subst q; exact .inr f.df
  ·rw [Aa.put_ne _ _ q] at ha
   exact f.post.dom a ha
end
section
variable {h0 : Heap} {prog : Program} {w : World} {K : Frag} {mg mb : Str → Option Value} (G : Gd K h0 mg mb) {n : Nat}
noncomputable abbrev eQ (prog : Program) (w : World) (K : Frag) (h0 : Heap) (n : Nat) (el : Ex) (tg : Tg) (ρc : Loc) (items : List (List V)) (J : Nat → List V → Aa → Prop) : Prop :=
 ∃ I : List V → Aa → Prop, J = (fun k acc σ => k = acc.length ∧ I acc σ) ∧ ∀ acc σ it, I acc σ → items[acc.length]? = some it → wpE (Bs h0) (Am prog w K h0 n) el (D4 tg it ρc) σ fun v σ' => I (acc ++ [v]) σ'
noncomputable abbrev eP (prog : Program) (w : World) (K : Frag) (h0 : Heap) (n : Nat) (el : Ex) (c : Tst) (tg : Tg) (ρc : Loc) (items : List (List V)) (J : Nat → List V → Aa → Prop) : Prop :=
 ∀ k acc σ it, J k acc σ → items[k]? = some it → wpT (Bs h0) (Am prog w K h0 n) c (D4 tg it ρc) σ fun t σ =>
    (t = true → wpE (Bs h0) (Am prog w K h0 n) el (D4 tg it ρc) σ fun v σ' => J (k + 1) (acc ++ [v]) σ') ∧ (t = false → J (k + 1) acc σ)
theorem O0 {env : Env} {nm : List Str} {ρ : Loc} {σ : Aa} {s : Shared} {A : Around} {E : Value → Shared → Prop} {el : Ex} {tg : Tg} {src : Src} {sc : Scope} {cn : List Str} {cap : List (Option Nat)} {p pos' : Pos} {use : Option (Value → Sem Unit)} {Ψ : Value → Shared → Prop} {Q : V → Aa → Prop}
  (hsrc : Dr prog w K h0 n src) (hel : Az prog w K h0 n el) (ok : okE env.kindOf nm (.comp el tg src sc cn cap p) = true)
  (eo : Ax h0 env) (R : Cy A n) (k : Ok h0 σ s) (F : Fm env nm ρ σ s.heap)
  (h : wpE (Bs h0) (Am prog w K h0 n) (.comp el tg src sc cn cap p) ρ σ Q)
  (hend : ∀ acc σ' s3 D C, Dw h0 σ s acc D C σ' s3 → Co (Bs h0) (.list acc) σ' Q → compPost (model prog w) A E use Ψ (.ref D) C (.ok .next) s3) :
  wpAny (model prog w) A (comprehension (.ListComp (trE cn el) [⟨I3 cn tg, Ee nm src, [], 0⟩] sc p) sc env pos' (newList []) false (eval (Ee nm src) env) use) Ψ E s := by
 replace ok := bd5 ok
 (refine zA ok fun zq0 o5 => ?_; have zq1 := zq0.1; have o4 := zq0.2; have zq2 := zq1.1; have o3 := zq1.2; have o1 := zq2.1; have o2 := zq2.2)
 refine Me (STEP := eQ prog w K h0 n el tg (Mine.capt cap ρ)) hsrc o2 o1 o3 o4 eo R k F h (fun items g σ q => ?_) (fun cenv items J kd eoc st k acc σ it s E hj hit ok' Fc => ?_) hend
 ·refine Ml q fun hl I i0 ig istep ifin => ?_
  exact ⟨hl, Ar (fun k acc σ => k = acc.length ∧ I acc σ) ⟨rfl, i0⟩ (fun k acc σ hj => ⟨ig _ _ hj.2, Nat.le_of_eq hj.1.symm⟩) (iEA I rfl istep) (fun acc σ hj => ifin acc σ hj.2 hj.1.symm)⟩
 ·(refine zEA st fun I zq0 istep => ?_; subst zq0)
  (have zq0 := hj.1; have hi := hj.2; subst zq0)
  refine wpAny_pure ?_
  rw [if_pos rfl]
  refine wpAny_mono (hel (E := E) (by rw [kd]; exact o5) eoc R ok' Fc (istep acc σ it hi hit)) (fun x s4 => yEA fun σ4 q pp => ⟨σ4, ⟨by simp, q⟩, pp⟩) fun _ _ e => e
theorem Ko {env : Env} {nm : List Str} {ρ : Loc} {σ : Aa} {s : Shared} {A : Around} {E : Value → Shared → Prop} {el : Ex} {tg : Tg} {src : Src} {c : Tst} {sc : Scope} {cn : List Str} {cap : List (Option Nat)} {p pos' : Pos} {use : Option (Value → Sem Unit)} {Ψ : Value → Shared → Prop} {Q : V → Aa → Prop}
  (hsrc : Dr prog w K h0 n src) (hel : Az prog w K h0 n el) (hc : H0 prog w K h0 n c) (ok : okE env.kindOf nm (.compIf el tg src c sc cn cap p) = true)
  (eo : Ax h0 env) (R : Cy A n) (k : Ok h0 σ s) (F : Fm env nm ρ σ s.heap)
  (h : wpE (Bs h0) (Am prog w K h0 n) (.compIf el tg src c sc cn cap p) ρ σ Q)
  (hend : ∀ acc σ' s3 D C, Dw h0 σ s acc D C σ' s3 → Co (Bs h0) (.list acc) σ' Q → compPost (model prog w) A E use Ψ (.ref D) C (.ok .next) s3) :
  wpAny (model prog w) A (comprehension (.ListComp (trE cn el) [⟨I3 cn tg, Ee nm src, [trT cn c], 0⟩] sc p) sc env pos' (newList []) false (eval (Ee nm src) env) use) Ψ E s := by
 replace ok := bd6 ok
 (refine zA ok fun zq0 o5 => ?_; refine zA zq0 fun zq1 o6 => ?_; have zq2 := zq1.1; have o4 := zq1.2; have zq3 := zq2.1; have o3 := zq2.2; have o1 := zq3.1; have o2 := zq3.2)
 refine Me (STEP := eP prog w K h0 n el c tg (Mine.capt cap ρ)) hsrc o2 o1 o3 o4 eo R k F h (fun items g σ q => ?_) (fun cenv items J kd eoc st k acc σ it s E hj hit ok' Fc => ?_) hend
 ·refine Ml q fun hl I i0 ig istep ifin => ?_
  exact ⟨hl, I, i0, ig, istep, ifin⟩
 ·rw [List.forIn_cons]
  simp only [if_true]
  refine wpAny_bind (wpAny_bind (wpAny_mono (hc (E := E) (by rw [kd]; exact o6) eoc R ok' Fc (st k acc σ it hj hit)) (fun t s1 => yEA fun σ1 h1 p1 => ?_) fun _ _ e => e))
  refine wpAny_pure (wpAny_pure ?_)
  cases t with
  | true =>
   rw [if_pos rfl]
   refine wpAny_mono (hel (E := E) (by rw [kd]; exact o5) eoc R (ok'.post0 p1) (Fc.post p1) (h1.1 rfl)) (fun x s4 => yEA fun σ4 q pp => ⟨σ4, q, p1.trans pp⟩) fun _ _ e => e
  | false =>
   rw [if_neg (by decide)]
   exact iEA σ1 (h1.2 rfl) p1
theorem Vn {el : Ex} {tg : Tg} {src : Src} {sc : Scope} {cn : List Str} {cap : List (Option Nat)} {p : Pos} (hsrc : Dr prog w K h0 n src) (hel : Az prog w K h0 n el) : Az prog w K h0 n (.comp el tg src sc cn cap p) := by
 intro env nm ρ σ Q s A E ok eo R k F h
 exact O0 hsrc hel ok eo R k F h fun acc σ' s3 D C f a => f.val k a
theorem Pw {el : Ex} {tg : Tg} {src : Src} {c : Tst} {sc : Scope} {cn : List Str} {cap : List (Option Nat)} {p : Pos} (hsrc : Dr prog w K h0 n src) (hel : Az prog w K h0 n el) (hc : H0 prog w K h0 n c) : Az prog w K h0 n (.compIf el tg src c sc cn cap p) := by
 intro env nm ρ σ Q s A E ok eo R k F h
 exact Ko hsrc hel hc ok eo R k F h fun acc σ' s3 D C f a => f.val k a
include G in
mutual
theorem Bj : ∀ e : Ex, Az prog w K h0 n e
 | .loc i p => X1 i p
 | .glo x v p => X4 G x v p
 | .num i p => Xx i p
 | .boo b p => X6 b p
 | .bin o l r p => X7 o (Bj l) (Bj r) p
 | .neg e p => Xz (Bj e) p
 | .not e p => Xy (Bj e) p
 | .conj l r p => Vl (Bj l) (Bj r) p
 | .cmp o l r p => X5 o (Bj l) (Bj r) p
 | .ite c a b p => X2 (J7 c) (Bj a) (Bj b) p
 | .attr e k p => Vq G (Bj e) k p
 | .idx e i p => X3 (Bj e) (Bj i) p
 | .slAll e q p => Sv (Bj e) q p
 | .slTo e u q p => Ve (Bj e) (Bj u) q p
 | .slFrom e l q p => Pr (Bj e) (Bj l) q p
 | .slBoth e l u q p => Ps (Bj e) (Bj l) (Bj u) q p
 | .tup es p => Xv (Iv es) p
 | .lst es p => X0 (Iv es) p
 | .call f as p => Vo G (Bj f) (Iv as) p
 | .meth e x f as q p => Vg G (Bj e) (Iv as) x f q p
 | .app e a q p => Yc (Bj e) (Bj a) q p
 | .bitl e q p => Vp (Bj e) q p
 | .bif b as q p => X8 G (Iv as) b q p
 | .comp el tg s sc cn cap p => Vn (H9 s) (Bj el)
 | .compIf el tg s c sc cn cap p => Pw (H9 s) (Bj el) (J7 c)
theorem Iv : ∀ es : Exs, Gz prog w K h0 n es
 | .nil => Vc
 | .cons e r => Su (Bj e) (Iv r)
theorem J7 : ∀ c : Tst, H0 prog w K h0 n c
 | .cmp o l r p => Vu o (Bj l) (Bj r) p
 | .conj l r p => Sy (J7 l) (J7 r) p
 | .disj l r p => Sw (J7 l) (J7 r) p
 | .not c p => Vt (J7 c) p
 | .val e => Vs (Bj e)
theorem H9 : ∀ s : Src, Dr prog w K h0 n s
 | .range1 e q p => Pv G (Bj e) q p
 | .range2 a b q p => Pu G (Bj a) (Bj b) q p
 | .range3 a b c q p => Pt G (Bj a) (Bj b) (Bj c) q p
 | .lst e => Pq (Bj e)
 | .enum e q p => Vj G (Bj e) q p
 | .zip a b q p => Xs G (Bj a) (Bj b) q p
end
theorem Yp {es : List DictEntry} {vs : List V} {h : Int} {t : Tok} {v : Value} {m : Nat} (f : Cr es vs) (h8 : vs.length < 8) :
  Obj.putName (Ac Ad vs.length) h (.str (Ac Ad vs.length) t) v (dictOf es m) = dictOf (es ++ [⟨h, .str (Ac Ad vs.length) t, v⟩]) (m + 1) := by
 have hn : es.toArray.findIdx? (·.key.isStr (Ac Ad vs.length)) = none := by
  rw [List.findIdx?_toArray, List.findIdx?_eq_none_iff]
  intro e he
  obtain ⟨i, hi, rfl⟩ := List.getElem_of_mem he
  (refine zA (f.2 i _ (List.getElem?_eq_getElem hi)) fun zq0 _ => ?_; refine zE zq0 fun t' ek => ?_)
  have := f.1
  rw [ek, D6 (by exact ln 0x222228b011222018b113 [i, vs.length, es.length] h8 hi this) h8]; simp; exact ln 0x22211051222012 [i, vs.length, es.length] hi this
 have := congrFun (congrFun (congrFun (congrFun (congrFun Obj.putName_eq (Ac Ad vs.length)) h) (.str (Ac Ad vs.length) t)) v) (dictOf es m)
 rw [this]
 simp only [Obj.putNameByArray, hn]
 simp
theorem Yo {es : List DictEntry} {vs : List V} {k : Nat} {h : Int} {key v : Value} {m : Nat} (f : Cr es vs) (h8 : vs.length ≤ 8) (hk : k < vs.length) :
  ∃ es', Obj.putName (Ac Ad k) h key v (dictOf es m) = dictOf es' m ∧ Cr es' (vs.set k (Af v)) := by
 have hk' : k < es.length := by rw [f.1]; exact hk
 have hn : es.toArray.findIdx? (·.key.isStr (Ac Ad k)) = some k := by
  rw [List.findIdx?_toArray, List.findIdx?_eq_some_iff_getElem]
  refine ⟨hk', ?_, fun j hj => ?_⟩
  ·(refine zA (f.2 k _ (List.getElem?_eq_getElem hk')) fun zq0 _ => ?_; refine zE zq0 fun t' ek => ?_)
   rw [ek, D6 (o22 h8 hk) (o22 h8 hk)]; simp
  ·(refine zA (f.2 j _ (List.getElem?_eq_getElem (Nat.lt_trans hj hk'))) fun zq0 _ => ?_; refine zE zq0 fun t' ek => ?_)
   rw [ek, D6 (by exact ln 0x222228b012011218b103 [j, vs.length, k] h8 hk hj) (by exact o22 h8 hk)]; simp; exact ln 0x2211051011 [j, k] hj
 have := congrFun (congrFun (congrFun (congrFun (congrFun Obj.putName_eq (Ac Ad k)) h) key) v) (dictOf es m)
 rw [this]
 simp only [Obj.putNameByArray, hn]
 refine Ay (es.modify k fun e => { e with val := v }) (by simp) (by simp [f.1]) (fun i e he => ?_)
 rw [List.getElem?_modify] at he
 (refine zEA (Option.map_eq_some_iff.mp he) fun e0 h1 zq0 => ?_; subst zq0)
 (refine zA (f.2 i e0 h1) fun zq0 ev => ?_; refine zE zq0 fun t' ek => ?_)
 by_cases q : k = i
 ·subst q
  simp only [if_true]
  exact ⟨⟨t', ek⟩, by rw [List.getElem?_set_self hk]⟩
 ·rw [if_neg q]
  exact ⟨⟨t', ek⟩, by rw [List.getElem?_set_ne q]; exact ev⟩
include G in
theorem Lc {a v : Value} {kx : Nat} {σ : Aa} {s : Shared} {Q : Aa → Prop} {A : Around} {E : Value → Shared → Prop} (k : Ok h0 σ s) (hk : kx < 8) (h : G3 (Bs h0) (Af a) (Af v) kx σ Q) :
  wpAny (model prog w) A (setAttr a (Ac Ad kx) v) (fun _ s' => ∃ σ', Q σ' ∧ Ah h0 Aj σ s σ' s') E s := by
 unfold G3 at h
 split at h
 ·rename_i x e
  rw [Av e]
  (refine Ei h fun dx vs zq0 h => ?_; refine G1 zq0 fun hb hx hd hl => ?_)
  refine Ew (Jp k hx hd) fun es m f h8 gd gx I => ?_
  have X := G.X.keeps k.base
  have tk0 : takerIn K LAT (Ac Ad kx) = some none := by unfold takerIn; rw [G.kf.fld kx hk]; rfl
  refine zEA (any_some G.kf.hd) fun cd hc hd' => ?_
  refine set_plain X I G.kf.setA ?_
  refine osa_open (s := { s with toks := s.toks + 1 }) X I G.kf.over tk0 fun b => ?_
  refine wpAny_bind (wpAny_pure (wpAny_bind (wpAny_bind (wpAny_loadPart (o := instObj LAT dx) gx (wpAny_bind (Looks.here (s := { s with toks := s.toks + 1 }) (looks_clsIn X hc) ?_))))))
  rw [hd']
  refine wpAny_pure (a := some dx) (wpAny_bind (wpAny_pure (wpAny_bind ?_)))
  unfold nsSet
  refine wpAny_bind (wpAny_bind (wpAny_askSetting (wpAny_pure (wpAny_bind (wpAny_mkText (wpAny_bind (wpAny_loadPart (o := dictOf es m) gd ?_)))))))
  dsimp only
  have c : aRefKeyMayBeTheName (Ac Ad kx) es.toArray = false := by
   rw [aRefKeyMayBeTheName_at]
   have : es.toArray.any (·.refKey) = false := by
    rw [List.any_toArray, List.any_eq_false]
    intro en he
    obtain ⟨i, hi, rfl⟩ := List.getElem_of_mem he
    (refine zA (f.2 i _ (List.getElem?_eq_getElem hi)) fun zq0 _ => ?_; refine zE zq0 fun t' ek => ?_)
    unfold DictEntry.refKey; rw [ek]; simp
   rw [this, Bool.and_false]
  rw [c]
  refine wpAny_updatePart (o := dictOf es m) gd ?_
  have fin : ∀ (es' : List DictEntry) (m' : Nat) (vs' : List V) (fo : Obj → Obj) (tk : Nat), fo (dictOf es m) = dictOf es' m' → Cr es' vs' → vs'.length ≤ 8 → vs' = (if kx < vs.length then vs.set kx (Af v) else vs ++ [Af v]) →
    (∃ σ', Q σ' ∧ Ah h0 Aj σ s σ' { s with heap := s.heap.update dx fo, toks := tk }) ∧ (s.heap.update dx fo).get? dx = some (dictOf es' m') := fun es' m' vs' fo tk ef fa hl' ev => by
   have e1 : (s.heap.update dx fo).get? dx = some (dictOf es' m') := by
    rw [Heap.get?_update_self _ gd (by rw [ef]; rfl), ef]
   refine ⟨(iEA (σ.put dx (.dict vs')) (h _ G9 (by rw [Aa.put_self, ev])) (.upd k hd hb (Heap.SameBut.update ..) (Ba es' m' e1 fa hl'))), e1⟩
  have pl : ∀ es' : List DictEntry, es'.length ≤ 8 → (dictOf es' 0).data.pastItsLine = none := fun es' hl => pastItsLine_dict (by rw [List.size_toArray, sizeLine_eq]; exact ln 0x2221b10000007fba008b001 [es'.length] hl)
  by_cases q : kx < vs.length
  ·refine zEA (Yo (h := PyData.keyHash w.params (Ac Ad kx)) (key := .str (Ac Ad kx) (s.toks + 1)) (v := v) (m := m) f h8 q) fun es' pe fa => ?_
   (refine zA (fin es' m _ _ (s.toks + 1 + 1) pe fa (by rw [List.length_set]; exact h8) (by rw [if_pos q])) fun zq0 e1 => ?_; refine zEA zq0 fun σ' hq p => ?_)
   have l8 : es'.length ≤ 8 := by rw [fa.1, List.length_set]; exact h8
   refine wpAny_bind (wpAny_lookBehind e1 (pastItsLine_dict (by rw [List.size_toArray, sizeLine_eq]; exact ln 0x2221b10000007fba008b001 [es'.length] l8)) ?_)
   exact wpAny_pure (iEA σ' hq p)
  ·have ek : kx = vs.length := by exact ln 0x2020221021041002 [kx, vs.length] hl q
   subst ek
   have pe := Yp (h := PyData.keyHash w.params (Ac Ad vs.length)) (t := s.toks + 1) (v := v) (m := m) f (by omega)
   have fa : Cr (es ++ [⟨PyData.keyHash w.params (Ac Ad vs.length), .str (Ac Ad vs.length) (s.toks + 1), v⟩]) (vs ++ [Af v]) := by
    refine ⟨by simp [f.1], fun i e he => ?_⟩
    rcases Nat.lt_or_ge i es.length with hi | hi
    ·rw [List.getElem?_append_left hi] at he
     have hi' : i < vs.length := by rw [← f.1]; exact hi
     rw [List.getElem?_append_left hi']
     exact f.2 i e he
    ·rw [List.getElem?_append_right hi] at he
     have : i - es.length = 0 := by
      rcases Nat.eq_zero_or_pos (i - es.length) with z | z
      ·exact z
      ·rw [List.getElem?_eq_none (by simp; assumption)] at he; cases he
     rw [this] at he
     simp only [List.getElem?_cons_zero, Option.some.injEq] at he
     subst he
     have ei : i = vs.length := by rw [← f.1]; exact ln 0x212122102012a20b222 [i, es.length, i - es.length] this (lsc i es.length (ln 0x2221001001 [es.length, i] hi))
     subst ei
     exact ⟨⟨_, rfl⟩, by rw [List.getElem?_append_right (Nat.le_refl _)]; simp⟩
   (refine zA (fin _ (m + 1) _ _ (s.toks + 1 + 1) pe fa (by rw [List.length_append, List.length_singleton]; assumption) (by rw [if_neg q])) fun zq0 e1 => ?_; refine zEA zq0 fun σ' hq p => ?_)
   refine wpAny_bind (wpAny_lookBehind e1 (pastItsLine_dict (by rw [List.size_toArray, sizeLine_eq, List.length_append, List.length_singleton, f.1]; exact ln 0x2221b10000007fba1b0a08b001 [vs.length] h8)) ?_)
   exact wpAny_pure (iEA σ' hq p)
 ·exact h.elim
end
noncomputable def Na : Ex → Bool
 | .comp .. | .compIf .. => true
 | _ => false
noncomputable def Wf : Ex → Bool
 | .tup .. => true
 | _ => false
noncomputable def okN (kd : Str → Option NameKind) (nm : List Str) (i : Nat) : Bool := decide (i < nm.length) && (kd (Ac nm i) == some .local || kd (Ac nm i) == some .cell)
noncomputable def B6 (kd : Str → Option NameKind) (nm : List Str) (i : Nat) : Bool := decide (i < nm.length) && kd (Ac nm i) == some .local
noncomputable def okA (kd : Str → Option NameKind) (nm : List Str) : At → Bool
 | .loc i _ => okN kd nm i
 | .attr e k _ => decide (k < 8) && okE kd nm e
 | .idx e i _ => okE kd nm e && okE kd nm i
 | .two i _ j _ _ => B6 kd nm i && B6 kd nm j
noncomputable def V2 (kd : Str → Option NameKind) (nm : List Str) : List At → Bool
 | [] => true
 | t :: r => okA kd nm t && V2 kd nm r
noncomputable def Cp (kd : Str → Option NameKind) (ts : List Expr) : List Str := ts.filterMap fun
  | .Name id pos => if kd id == some .local && pos.line == (ts.head?.map (·.pos.line)).getD 0 then some id else none
  | _ => none
noncomputable def H6 (vs : List Expr) : Bool := !vs.all (foldedForSure 8) && !vs.all (constantsAlone 8)
noncomputable def dC (kd : Str → Option NameKind) (nm : List Str) (ts : List At) (es : List Expr) : Bool := match ts with
 | [.loc i p, .loc j q] => (Cp kd [.Name (Ac nm i) p, .Name (Ac nm j) q]).length != 2 || (B6 kd nm i && B6 kd nm j && p.line == q.line && Ac nm i != Ac nm j && H6 es)
 | [.loc i p, .loc j q, .loc k r] => (Cp kd [.Name (Ac nm i) p, .Name (Ac nm j) q, .Name (Ac nm k) r]).length != 3 ||
   (B6 kd nm i && B6 kd nm j && B6 kd nm k && p.line == q.line && p.line == r.line && Ac nm i != Ac nm j && Ac nm i != Ac nm k && Ac nm j != Ac nm k && H6 es)
 | ts => (Cp kd (ts.map (trA nm))).length != ts.length
noncomputable def eN : Operator → Bool
 | .Add | .Sub | .RShift | .Mod | .BitOr => true
 | _ => false
noncomputable def R8 (kd : Str → Option NameKind) (nm : List Str) : Tg → Bool
 | .one i _ => okN kd nm i
 | .two i _ j _ _ => okN kd nm i && okN kd nm j
noncomputable def Fp (kd : Str → Option NameKind) (nm : List Str) (t : At) (sc : Scope) (vp : Pos) : Bool := match t with
 | .loc i ip => B6 kd nm i && ip.line == vp.line && !(sc.names.any fun (n, k) => n == Ac nm i && (k == .local || k == .cell))
 | _ => true
mutual
noncomputable def okS (kd : Str → Option NameKind) (nm : List Str) : St → Bool
 | .asg t e _ => okE kd nm e && okA kd nm t && (match t with | .two .. => false | _ => true) && (match e with
   | .comp _ _ _ sc _ _ vp => Fp kd nm t sc vp
   | .compIf _ _ _ _ sc _ _ vp => Fp kd nm t sc vp
   | _ => true)
 | .asgs ts es _ _ _ => V2 kd nm ts && Le kd nm es && Bk es == ts.length && decide (Bk es < 20) && dC kd nm ts (Bt nm es)
 | .unp ts e _ _ => V2 kd nm ts && okE kd nm e && !Wf e && !Na e
 | .aug i _ o e _ => B6 kd nm i && eN o && okE kd nm e
 | .expr e _ => okE kd nm e && !Na e
 | .cond c a b _ => okT kd nm c && Fs kd nm a && Fs kd nm b
 | .whil c b _ => okT kd nm c && Fs kd nm b
 | .forr t s b _ => Do t s && R8 kd nm t && L7 kd nm s && Fs kd nm b
 | .ret e _ => okE kd nm e
 | .ret0 _ => true
 | .dead _ => true
noncomputable def Fs (kd : Str → Option NameKind) (nm : List Str) : Sts → Bool
 | .nil => true
 | .cons s r => okS kd nm s && Fs kd nm r
end
noncomputable def Ds (env : Env) : Prop := ∀ x y c, env.cells.lookup x = some c → env.cells.lookup y = some c → x = y
section
variable {h0 : Heap} {prog : Program} {w : World} {K : Frag} {mg mb : Str → Option Value} (G : Gd K h0 mg mb) {n : Nat}
noncomputable def Stq (h0 : Heap) (env : Env) (nm : List Str) (N : Loc → Aa → Prop) (σ : Aa) (s : Shared) : Unit → Shared → Prop := fun _ s' => ∃ ρ' σ', N ρ' σ' ∧ Fm env nm ρ' σ' s'.heap ∧ Ah h0 (Ab env) σ s σ' s'
noncomputable def Flq (h0 : Heap) (env : Env) (nm : List Str) (N : Loc → Aa → Prop) (R : V → Aa → Prop) (σ : Aa) (s : Shared) : Flow → Shared → Prop := fun f s' => match f with
 | .next => ∃ ρ' σ', N ρ' σ' ∧ Fm env nm ρ' σ' s'.heap ∧ Ah h0 (Ab env) σ s σ' s'
 | .ret v => ∃ σ', R (Af v) σ' ∧ Ah h0 (Ab env) σ s σ' s'
 | _ => False
theorem J5 {env : Env} {nm : List Str} {ρ : Loc} {σ : Aa} {s : Shared} {i : Nat} {v : Value} {M : Model} {A : Around} {E : Value → Shared → Prop} {Q : Unit → Shared → Prop} (eo : Ax h0 env) (ap : Ds env) (hnd : An nm = true) (k : Ok h0 σ s) (F : Fm env nm ρ σ s.heap)
  (hi : okN env.kindOf nm i = true)
  (h : ∀ h' tk, Fm env nm (ρ.set i (some (Af v))) σ h' → Ah h0 (Ab env) σ s σ { s with heap := h', toks := tk } → (∀ b o, ¬ Ab env b → s.heap.get? b = some o → h'.get? b = some o) → Q () { s with heap := h', toks := tk }) :
  wpAny M A (storeName env (Ac nm i) v) Q E s := by
 simp only [okN, Bool.and_eq_true, Bool.or_eq_true, decide_eq_true_eq, beq_iff_eq] at hi
 obtain ⟨hi, hk | hk⟩ := hi
 ·refine L6 eo hnd F hi hk fun h' tk F' hs => h h' tk F' ?_ fun b o hb e => (hs.2 b fun q => hb (.inl q)).trans e
  exact .own k (F.off _ (.inl rfl)) (.inl rfl) hs (by (refine zEA F'.ns fun m zq0 _ => ?_; refine It zq0 fun o' _ _ q _ => ?_); exact ⟨o', q⟩)
 ·refine zE (eo.lk _ hk) fun c hc => ?_
  refine zE (F.any _ c (mem_of_lookup hc)) fun v0 hv => ?_
  refine wpAny_storeName_cell eo.kind hk hc hv fun h' hv' hs => ?_
  have hcm := mem_of_lookup hc
  refine h h' s.toks ⟨?_, fun j x u e1 e2 e3 => ?_, fun x d hd => ?_, F.off⟩ (.own k (F.off _ (.inr ⟨_, hcm⟩)) (.inr ⟨_, hcm⟩) hs (by refine zEA hv' fun o q _ => ?_; exact ⟨o, q⟩)) fun b o hb e => (hs.2 b fun q => hb (by rw [q]; exact .inr ⟨_, hcm⟩)).trans e
  ·refine zEA F.ns fun m hn hm => ?_
   refine iEA m (hn.sameBut hs (eo.lc _ _ hcm)) (fun j x u e1 e2 e3 => ?_)
   have q : i ≠ j := fun q => by
    subst q; rw [Cj hi] at e1; cases e1; rw [hk] at e2; cases e2
   rw [Cm q] at e3
   exact hm j x u e1 e2 e3
  ·by_cases q : i = j
   ·subst q
    have := Gx e3; subst this
    have ex : x = Ac nm i := by rw [Cj hi] at e1; exact (Option.some.inj e1).symm
    subst ex
    exact Ba c v hc hv' rfl
   ·rw [Cm q] at e3
    refine Bv (F.cell j x u e1 e2 e3) fun d u' h1 h2 h3 => ?_
    have nx : x ≠ Ac nm i := Ke hnd e1 (Cj hi) (Ne.symm q)
    exact Ba d u' h1 (h2.sameBut hs (fun z => nx (ap _ _ d h1 (by rw [← z] at hc; exact hc)))) h3
  ·by_cases q : d = c
   ·subst q; exact ⟨_, hv'⟩
   ·refine zE (F.any x d hd) fun v' hv2 => ?_
    exact ⟨v', hv2.sameBut hs q⟩
theorem Cg {env : Env} {nm : List Str} {ρ : Loc} {σ : Aa} {s : Shared} {i : Nat} {v : Value} {M : Model} {A : Around} {E : Value → Shared → Prop} {Q : Unit → Shared → Prop} (eo : Ax h0 env) (ap : Ds env) (hnd : An nm = true) (k : Ok h0 σ s) (F : Fm env nm ρ σ s.heap)
  (hi : okN env.kindOf nm i = true)
  (h : ∀ h' tk, Fm env nm (ρ.set i (some (Af v))) σ h' → Ah h0 (Ab env) σ s σ { s with heap := h', toks := tk } → Q () { s with heap := h', toks := tk }) :
  wpAny M A (storeName env (Ac nm i) v) Q E s := J5 eo ap hnd k F hi fun h' tk F' P _ => h h' tk F' P
theorem Pn {env : Env} {nm : List Str} (eo : Ax h0 env) (ap : Ds env) (hnd : An nm = true) {i : Nat} (hi : okN env.kindOf nm i = true) : Hy h0 env nm (Ab env) i := by
 intro ρ σ s v M A E Q ok F h
 exact J5 eo ap hnd ok F hi fun h' tk F' P hk => h h' tk F' hk fun b o _ e => P.live b o e
theorem U4 {env : Env} {nm : List Str} (eo : Ax h0 env) (ap : Ds env) (hnd : An nm = true) {t : Tg} (h : R8 env.kindOf nm t = true) : Xg h0 env nm (Ab env) t := by
 refine ⟨fun a ha => ha, ?_⟩
 cases t with
 | one i p => exact Pn eo ap hnd h
 | two i pi j pj p =>
  simp only [R8, Bool.and_eq_true] at h
  exact ⟨Pn eo ap hnd h.1, Pn eo ap hnd h.2⟩
theorem E3 {kd : Str → Option NameKind} {nm : List Str} {i : Nat} (h : B6 kd nm i = true) : okN kd nm i = true := by
 unfold B6 at h
 simp only [Bool.and_eq_true] at h
 unfold okN; rw [h.1, h.2]; rfl
theorem Stq.up {env : Env} {nm : List Str} {N : Loc → Aa → Prop} {σ σ1 : Aa} {s s1 s' : Shared} {u : Unit} (p : Ah h0 (Ab env) σ s σ1 s1) (r : Stq h0 env nm N σ1 s1 u s') : Stq h0 env nm N σ s u s' := by
 refine Bv r fun ρ' σ' h1 h2 h3 => ?_; exact Ba ρ' σ' h1 h2 (p.trans h3)
theorem Flq.up {env : Env} {nm : List Str} {N : Loc → Aa → Prop} {R : V → Aa → Prop} {σ σ1 : Aa} {s s1 s' : Shared} {f : Flow} (p : Ah h0 (Ab env) σ s σ1 s1) (r : Flq h0 env nm N R σ1 s1 f s') : Flq h0 env nm N R σ s f s' := by
 cases f with
 | next => refine Bv r fun ρ' σ' h1 h2 h3 => ?_; exact Ba ρ' σ' h1 h2 (p.trans h3)
 | ret v => refine zEA r fun σ' h1 h2 => ?_; exact iEA σ' h1 (p.trans h2)
 | _ => exact r.elim
theorem Km {nm : List Str} {env : Env} : ∀ ts : List At, (assignEach (ts.map (trA nm)) env).length = ts.length ∧ (assignEach (ts.map (trA nm)) env).findIdx? (·.1) = none ∧ (assignEach (ts.map (trA nm)) env).map (·.2) = ts.map fun t => assign (trA nm t) env
 | [] => ⟨rfl, rfl, rfl⟩
 | t :: r => by
  refine zAA (Km (nm := nm) (env := env) r) fun h1 h2 h3 => ?_
  have e : assignEach ((t :: r).map (trA nm)) env = (false, assign (trA nm t) env) :: assignEach (r.map (trA nm)) env := by cases t <;> rfl
  rw [e]
  exact ⟨by simp [h1], by simp [List.findIdx?_cons, h2], by simp [h3]⟩
theorem Xo {h : Heap} {x : Addr} {u v : V} (m : Mt h x (.tup [u, v])) : ∃ a b, h.IsTuple x #[a, b] ∧ Af a = u ∧ Af b = v := by
 refine Bv m fun xs n g e _ => ?_
 obtain ⟨l⟩ := xs
 dsimp only at e
 obtain ⟨a, l, rfl, ha, e⟩ := List.map_eq_cons_iff.mp e
 obtain ⟨b, l, rfl, hb, e⟩ := List.map_eq_cons_iff.mp e
 obtain rfl := List.map_eq_nil_iff.mp e
 exact Ba a b (Ay _ g rfl ⟨n, rfl⟩) ha hb
include G in
theorem Ru (t : At) {env : Env} {nm : List Str} {ρ : Loc} {σ : Aa} {s : Shared} {A : Around} {E : Value → Shared → Prop} {v : Value} {N : Loc → Aa → Prop} (ok : okA env.kindOf nm t = true) (hnd : An nm = true) (eo : Ax h0 env) (ap : Ds env) (R : Cy A n) (k : Ok h0 σ s) (F : Fm env nm ρ σ s.heap)
  (h : wpA (Bs h0) (Am prog w K h0 n) t (Af v) ρ σ N) : wpAny (model prog w) A (assign (trA nm t) env v) (Stq h0 env nm N σ s) E s := by
 cases t with
 | loc i p => exact wpAny_assign_Name (Cg eo ap hnd k F ok fun h' tk F' P => Ba _ _ h F' P)
 | attr e kx p =>
  simp only [okA, Bool.and_eq_true, decide_eq_true_eq] at ok
  show wpAny _ _ (assign (.Attribute (trE nm e) (Ac Ad kx) p) env v) _ _ _
  rw [arm_assign_Attribute]
  refine wpAny_bind (wpAny_holding (wpAny_mono (Bj G e ok.2 eo R k F h) (fun ov s1 => yEA fun σ1 h1 p1 => ?_) fun _ _ e => e))
  refine wpAny_bind (wpAny_standAt (wpAny_bind (wpAny_holding (wpAny_mono (Lc G (k.post0 p1) ok.1 h1) (fun _ s2 => yEA fun σ2 h2 p2 => ?_) fun _ _ e => e))))
  exact wpAny_release (Ba ρ σ2 h2 ((F.post p1).post p2) ((p1.trans p2).wide))
 | idx e i p =>
  simp only [okA, Bool.and_eq_true] at ok
  show wpAny _ _ (assign (.Subscript (trE nm e) (trE nm i) p) env v) _ _ _
  rw [arm_assign_Subscript]
  refine wpAny_bind (wpAny_holding (wpAny_mono (Bj G e ok.1 eo R k F h) (fun ov s1 => yEA fun σ1 h1 p1 => ?_) fun _ _ e => e))
  refine wpAny_bind (wpAny_holding (wpAny_mono (Bj G i ok.2 eo R (k.post0 p1) (F.post p1) h1) (fun iv s2 => yEA fun σ2 h2 p2 => ?_) fun _ _ e => e))
  have p12 := p1.trans p2
  refine wpAny_bind (wpAny_standAt (wpAny_bind (wpAny_holding (wpAny_mono (Lb (k.post0 p12) h2) (fun _ s3 => yEA fun σ3 h3 p3 => ?_) fun _ _ e => e))))
  exact wpAny_release ⟨ρ, σ3, h3, (F.post p12).post p3, (p12.trans p3).wide⟩
 | two i pi j pj p =>
  simp only [okA, Bool.and_eq_true] at ok
  unfold wpA Ka at h
  dsimp only at h
  split at h
  ·rename_i x ex
   refine Ei h fun u u' hx h => ?_
   rw [Av ex]
   (refine Bv (Xo (k.sat _ _ hx)) fun a b ht zq0 zq1 => ?_; subst zq0; subst zq1)
   refine wpAny_assign_Tuple (elts := [.Name (Ac nm i) pi, .Name (Ac nm j) pj]) (items := #[a, b]) R.handled ht rfl rfl fun h2 hx => ?_
   have P2 : Ah h0 (Ab env) σ s σ { s with heap := h2, toks := s.toks } := .junk k fun b o e => hx b o (Nat.ne_of_lt (Heap.lt_size e)) e
   have P2' : Ah h0 Aj σ s σ { s with heap := h2, toks := s.toks } := .junk k fun b o e => hx b o (Nat.ne_of_lt (Heap.lt_size e)) e
   have k2 := k.post0 P2'
   refine assignInOrder_cons (wpAny_assign_Name (Cg eo ap hnd k2 (F.post P2') (E3 ok.1) fun h3 tk3 F3 P3 => ?_))
   refine assignInOrder_cons (wpAny_assign_Name (Cg eo ap hnd (k2.post P3 eo.own) F3 (E3 ok.2) fun h4 tk4 F4 P4 => ?_))
   exact assignInOrder_nil (Ba _ σ h F4 ((P2.trans P3).trans P4))
  ·exact h.elim
include G in
theorem J6 {env : Env} {nm : List Str} {A : Around} {E : Value → Shared → Prop} (hnd : An nm = true) (eo : Ax h0 env) (ap : Ds env) (R : Cy A n) : ∀ (ts : List At) (vals : List Value) {ρ : Loc} {σ : Aa} {s : Shared} {N : Loc → Aa → Prop} (_ : V2 env.kindOf nm ts = true)
  (_ : Ok h0 σ s) (_ : Fm env nm ρ σ s.heap) (_ : N7 (Bs h0) (Am prog w K h0 n) ts (vals.map Af) ρ σ N), wpAny (model prog w) A (assignInOrder (ts.map fun t => assign (trA nm t) env) vals) (Stq h0 env nm N σ s) E s
 | [], [], _, _, _, _, _, k, F, h => assignInOrder_nil ⟨_, _, h, F, .refl k⟩
 | [], _ :: _, _, _, _, _, _, _, _, h => h.elim
 | _ :: _, [], _, _, _, _, _, _, _, h => h.elim
 | t :: ts, v :: vs, ρ, σ, s, N, ok, k, F, h => by
  simp only [V2, Bool.and_eq_true] at ok
  refine assignInOrder_cons (wpAny_mono (Ru G t ok.1 hnd eo ap R k F (show wpA _ _ t (Af v) ρ σ fun ρ σ => N7 _ _ ts (vs.map Af) ρ σ N from h)) (fun _ s1 ⟨ρ1, σ1, h1, F1, P1⟩ => ?_) fun _ _ e => e)
  exact wpAny_mono (J6 hnd eo ap R ts vs ok.2 (k.post P1 eo.own) F1 h1) (fun _ s2 r => r.up P1) fun _ _ e => e
theorem U8 {ts vs : List Expr} {c c' : Nat} {p p' : Pos} {env : Env} : swappedStores [.Tuple ts c p] (.Tuple vs c' p') env =
  (if (!(ts.length == 2 || ts.length == 3) || vs.length != ts.length || env.blockKind != .function) = true then pure none
  else if (vs.any fun | .Starred .. => true | _ => false) = true then pure none
  else if ((Cp env.kindOf ts).length != ts.length || (Cp env.kindOf ts).eraseDups.length != (Cp env.kindOf ts).length) = true then pure none
  else if vs.all (foldedForSure 8) = true then pure none
  else if vs.all (constantsAlone 8) = true then unsupported "assign.tuple-of-constant-expressions:order-of-the-stores"
  else pure (some (Cp env.kindOf ts))) := by
 unfold swappedStores Cp
 rfl
theorem Mo {ts vs : List Expr} {c c' : Nat} {p p' : Pos} {env : Env} (h : ((Cp env.kindOf ts).length != ts.length) = true) : swappedStores [.Tuple ts c p] (.Tuple vs c' p') env = pure none := by
 rw [U8]
 split
 ·rfl
 ·split
  ·rfl
  ·rw [h, Bool.true_or, if_pos rfl]
theorem Mv {nm : List Str} : ∀ es : Exs, ((Bt nm es).any fun | .Starred .. => true | _ => false) = false
 | .nil => rfl
 | .cons e r => by
  rw [Bt, List.any_cons, Mv r]
  cases e <;> rfl
theorem Fj {env : Env} (h : env.scope.kind = .function) : env.blockKind = .function := by
 unfold Env.blockKind; rw [h]; rfl
theorem Oe (x : Str) (p : Pos) : (Expr.Name x p).pos = p := rfl
theorem aM {nm : List Str} {i j : Nat} {p q tp ep : Pos} {es : Exs} {env : Env} (hb : env.scope.kind = .function) (hl : Bk es = 2) (h : (B6 env.kindOf nm i && B6 env.kindOf nm j && p.line == q.line && Ac nm i != Ac nm j && H6 (Bt nm es)) = true) :
  swappedStores [.Tuple [.Name (Ac nm i) p, .Name (Ac nm j) q] 0 tp] (.Tuple (Bt nm es) 0 ep) env = pure (some [Ac nm i, Ac nm j]) := by
 simp only [Bool.and_eq_true, beq_iff_eq, bne_iff_ne, ne_eq, B6, decide_eq_true_eq, H6, Bool.not_eq_true'] at h
 (refine zAA h fun zq0 h5 h6 => ?_; refine zA zq0 fun zq1 h4 => ?_; have zq2 := zq1.1; have h3 := zq1.2; have h1 := zq2.1; have h2 := zq2.2)
 have e : Cp env.kindOf [.Name (Ac nm i) p, .Name (Ac nm j) q] = [Ac nm i, Ac nm j] := by
  unfold Cp
  simp [h1.2, h2.2, Oe, h3]
 have ed : [Ac nm i, Ac nm j].eraseDups = [Ac nm i, Ac nm j] := by
  have q : (Ac nm j == Ac nm i) = false := by simpa using Ne.symm h4
  simp [List.eraseDups_cons, q]
 rw [U8, e, ed, Mv, h5, h6, Fj hb, Hc, hl]
 rfl
theorem U7 {nm : List Str} {i j k : Nat} {p q r tp ep : Pos} {es : Exs} {env : Env} (hb : env.scope.kind = .function) (hl : Bk es = 3)
  (h : (B6 env.kindOf nm i && B6 env.kindOf nm j && B6 env.kindOf nm k && p.line == q.line && p.line == r.line && Ac nm i != Ac nm j && Ac nm i != Ac nm k && Ac nm j != Ac nm k && H6 (Bt nm es)) = true) :
  swappedStores [.Tuple [.Name (Ac nm i) p, .Name (Ac nm j) q, .Name (Ac nm k) r] 0 tp] (.Tuple (Bt nm es) 0 ep) env = pure (some [Ac nm i, Ac nm j, Ac nm k]) := by
 simp only [Bool.and_eq_true, beq_iff_eq, bne_iff_ne, ne_eq, B6, decide_eq_true_eq, H6, Bool.not_eq_true'] at h
 (refine zAA h fun zq0 h9 h10 => ?_; refine zA zq0 fun zq1 h8 => ?_; refine zA zq1 fun zq2 h7 => ?_; refine zA zq2 fun zq3 h6 => ?_; refine zA zq3 fun zq4 h5 => ?_; have zq5 := zq4.1; have h4 := zq4.2; have zq6 := zq5.1; have h3 := zq5.2; have h1 := zq6.1; have h2 := zq6.2)
 have e : Cp env.kindOf [.Name (Ac nm i) p, .Name (Ac nm j) q, .Name (Ac nm k) r] = [Ac nm i, Ac nm j, Ac nm k] := by
  unfold Cp
  simp [h1.2, h2.2, h3.2, Oe, ← h4, ← h5]
 have ed : [Ac nm i, Ac nm j, Ac nm k].eraseDups = [Ac nm i, Ac nm j, Ac nm k] := by
  have q1 : (Ac nm j == Ac nm i) = false := by simpa using Ne.symm h6
  have q2 : (Ac nm k == Ac nm i) = false := by simpa using Ne.symm h7
  have q3 : (Ac nm k == Ac nm j) = false := by simpa using Ne.symm h8
  simp [List.eraseDups_cons, q1, q2, q3]
 rw [U8, e, ed, Mv, h9, h10, Fj hb, Hc, hl]
 rfl
theorem G2 {nm : List Str} {env : Env} {es : Exs} {p : Pos} {σ : Aa} {s : Shared} {A : Around} {E : Value → Shared → Prop} {Ψ : Value → Shared → Prop} {Q : List V → Aa → Prop} (hl : Bk es < 20) (k : Ok h0 σ s)
  (h : wpAny (model prog w) A (spliced (backTo p (starEach (Bt nm es) env))) (fun vs s' => ∃ σ', vs.length = Bk es ∧ Q (vs.map Af) σ' ∧ Ah h0 Aj σ s σ' s') E s)
  (hΨ : ∀ (vs : List Value) T σ' s', vs.length = Bk es → Q (vs.map Af) σ' → s'.heap.IsTuple T vs.toArray → Ah h0 Aj σ s σ' s' → Ψ (.ref T) s') :
  wpAny (model prog w) A (eval (.Tuple (Bt nm es) 0 p) env) Ψ E s := by
 refine Tuple_ (wpAny_mono h (fun vs s1 => Mm fun σ1 hl1 h1 p1 => ?_) fun _ _ e => e)
 refine wpAny_newTuple ?_ (by rw [sizeLine_eq]; exact ln 0x222210000007fb00102142fb112 [vs.length, Bk es] hl hl1)
 refine hΨ vs _ σ1 _ hl1 h1 (Ay _ (Heap.get?_push_size _ rfl) rfl ⟨0, rfl⟩) (p1.trans (.junk (tk := s1.toks) (k.post0 p1) fun b o e => Heap.get?_push_of_some _ e))
noncomputable def Is (prog : Program) (w : World) (K : Frag) (h0 : Heap) (n : Nat) (st : St) : Prop :=
 ∀ {env : Env} {nm : List Str} {ρ : Loc} {σ : Aa} {N : Loc → Aa → Prop} {Rt : V → Aa → Prop} {s : Shared} {A : Around} {E : Value → Shared → Prop}, okS env.kindOf nm st = true → An nm = true → Ax h0 env → Ds env → Cy A n → Ok h0 σ s → Fm env nm ρ σ s.heap →
  wpS (Bs h0) (Am prog w K h0 n) st ρ σ N Rt → wpAny (model prog w) A (exec (trS nm st) env) (Flq h0 env nm N Rt σ s) E s
noncomputable def I2 (prog : Program) (w : World) (K : Frag) (h0 : Heap) (n : Nat) (b : Sts) : Prop :=
 ∀ {env : Env} {nm : List Str} {ρ : Loc} {σ : Aa} {N : Loc → Aa → Prop} {Rt : V → Aa → Prop} {s : Shared} {A : Around} {E : Value → Shared → Prop}, Fs env.kindOf nm b = true → An nm = true → Ax h0 env → Ds env → Cy A n → Ok h0 σ s → Fm env nm ρ σ s.heap →
  Di (Bs h0) (Am prog w K h0 n) b ρ σ N Rt → wpAny (model prog w) A (execs (C8 nm b) env) (Flq h0 env nm N Rt σ s) E s
theorem De {nm : List Str} {env : Env} {t : Option Expr} {l : Nat} : ∀ e : Ex, Na e = false → swapsWith (trE nm e) t l env = pure false := by
 intro e h; cases e <;> first | rfl | cases h
theorem Hi {α : Type} {l : List α} (h : l.length = 2) : ∃ a b, l = [a, b] := by
 (refine zEE (List.exists_cons_of_length_eq_add_one h) fun a l zq0 => ?_; subst zq0)
 (refine zEE (List.exists_cons_of_length_eq_add_one (Nat.succ.inj h)) fun b l zq0 => ?_; subst zq0)
 exact iEE a b (by rw [List.length_eq_zero_iff.mp (Nat.succ.inj (Nat.succ.inj h))])
theorem En {α : Type} {l : List α} (h : l.length = 3) : ∃ a b c, l = [a, b, c] := by
 (refine zEE (List.exists_cons_of_length_eq_add_one h) fun a l zq0 => ?_; subst zq0)
 (refine zEE (Hi (Nat.succ.inj h)) fun b c zq0 => ?_; subst zq0)
 exact Hk a b c rfl
noncomputable def bO : Expr → Bool
 | .Tuple .. => true
 | _ => false
theorem bF {ts : List Expr} {v : Expr} {env : Env} (h : bO v = false) : swappedStores ts v env = pure none := by
 cases ts with
 | nil => rfl
 | cons t r => cases r with
  | cons _ _ => first | rfl | (cases t <;> rfl)
  | nil => cases t <;> first | rfl | (cases v <;> first | rfl | (cases h))
theorem Lg {nm : List Str} {env : Env} {ts : List Expr} (e : Ex) (h : Wf e = false) : swappedStores ts (trE nm e) env = pure none :=
 bF (by cases e <;> first | rfl | cases h)
include G in
theorem Vr (ts : List At) (es : Exs) (tp ep p : Pos) : Is prog w K h0 n (.asgs ts es tp ep p) := by
 intro env nm ρ σ N Rt s A E ok hnd eo ap R k F h
 replace ok := bd5 ok
 simp only [decide_eq_true_eq, beq_iff_eq] at ok
 (refine zA ok fun zq0 o5 => ?_; have zq1 := zq0.1; have o4 := zq0.2; have zq2 := zq1.1; have o3 := zq1.2; have o1 := zq2.1; have o2 := zq2.2)
 have he := Iv G es (pos := ep) (E := E) (A := A) o2 eo R k F h
 have plain : swappedStores [.Tuple (ts.map (trA nm)) 0 tp] (.Tuple (Bt nm es) 0 ep) env = pure none → wpAny (model prog w) A (exec (.Assign [.Tuple (ts.map (trA nm)) 0 tp] (.Tuple (Bt nm es) 0 ep) p) env) (Flq h0 env nm N Rt σ s) E s := fun hw => by
  refine Assign_Tuple (G2 (Q := fun vs σ => N7 (Bs h0) (Am prog w K h0 n) _ vs ρ σ N) o4 k he fun vs T σ1 s1 hl h1 ht p1 => ?_) rfl hw
  refine zAA (Km (nm := nm) (env := env) ts) fun e1 e2 e3 => ?_
  refine wpAny_assign_Tuple (items := vs.toArray) R.handled ht (by rw [e1, List.size_toArray, hl, o3]) e2 fun h2 hx => ?_
  rw [e3]
  have P2 : Ah h0 Aj σ1 s1 σ1 { s1 with heap := h2, toks := s1.toks } := .junk (k.post0 p1) fun b o e => hx b o (Nat.ne_of_lt (Heap.lt_size e)) e
  have p12 := p1.trans P2
  exact wpAny_mono (J6 G hnd eo ap R ts vs (s := { s1 with heap := h2, toks := s1.toks }) o1 (k.post0 p12) (F.post p12) h1) (fun _ s3 r => r.up p12.wide) fun _ _ e => e
 have swap2 : ∀ (vs : List Value) T σ1 s1 (i j : Nat) (a b : Value), vs = [a, b] → s1.heap.IsTuple T vs.toArray → Ah h0 Aj σ s σ1 s1 → B6 env.kindOf nm i = true → B6 env.kindOf nm j = true → i ≠ j → N ((ρ.set i (some (Af a))).set j (some (Af b))) σ1 →
   wpAny (model prog w) A (unpackItems (.ref T) 2 none) (fun items s₂ => wpAny (model prog w) A (assignInOrder ([Ac nm j, Ac nm i].map fun n => bindName env n) items.reverse) (fun _ => Flq h0 env nm N Rt σ s .next) E s₂) E s1 := fun vs T σ1 s1 i j a b ev ht p1 hi hj hne h1 => by
  subst ev
  refine wpAny_unpackItems_tuple (items := #[a, b]) R.handled ht fun h2 hx => ?_
  have P2 : Ah h0 Aj σ1 s1 σ1 { s1 with heap := h2, toks := s1.toks } := .junk (k.post0 p1) fun b o e => hx b o (Nat.ne_of_lt (Heap.lt_size e)) e
  have p12 := p1.trans P2
  have k2 := k.post0 p12
  refine assignInOrder_cons (wpAny_bindName (Cg eo ap hnd k2 (F.post p12) (E3 hj) fun h3 tk3 F3 P3 => ?_))
  refine assignInOrder_cons (wpAny_bindName (Cg eo ap hnd (k2.post P3 eo.own) F3 (E3 hi) fun h4 tk4 F4 P4 => ?_))
  refine assignInOrder_nil (Ba _ σ1 ?_ F4 ((p12.wide.trans P3).trans P4))
  rw [List.set_comm _ _ (Ne.symm hne)]; exact h1
 have swap3 : ∀ (vs : List Value) T σ1 s1 (i j l : Nat) (a b c : Value), vs = [a, b, c] → s1.heap.IsTuple T vs.toArray → Ah h0 Aj σ s σ1 s1 → B6 env.kindOf nm i = true → B6 env.kindOf nm j = true → B6 env.kindOf nm l = true → i ≠ j → i ≠ l → j ≠ l → N (((ρ.set i (some (Af a))).set j (some (Af b))).set l (some (Af c))) σ1 →
   wpAny (model prog w) A (unpackItems (.ref T) 3 none) (fun items s₂ => wpAny (model prog w) A (assignInOrder ([Ac nm l, Ac nm j, Ac nm i].map fun n => bindName env n) items.reverse) (fun _ => Flq h0 env nm N Rt σ s .next) E s₂) E s1 := fun vs T σ1 s1 i j l a b c ev ht p1 hi hj hl hne hnl hml h1 => by
  subst ev
  refine wpAny_unpackItems_tuple (items := #[a, b, c]) R.handled ht fun h2 hx => ?_
  have P2 : Ah h0 Aj σ1 s1 σ1 { s1 with heap := h2, toks := s1.toks } := .junk (k.post0 p1) fun b o e => hx b o (Nat.ne_of_lt (Heap.lt_size e)) e
  have p12 := p1.trans P2
  have k2 := k.post0 p12
  refine assignInOrder_cons (wpAny_bindName (Cg eo ap hnd k2 (F.post p12) (E3 hl) fun h3 tk3 F3 P3 => ?_))
  have k3 := k2.post P3 eo.own
  refine assignInOrder_cons (wpAny_bindName (Cg eo ap hnd k3 F3 (E3 hj) fun h4 tk4 F4 P4 => ?_))
  refine assignInOrder_cons (wpAny_bindName (Cg eo ap hnd (k3.post P4 eo.own) F4 (E3 hi) fun h5 tk5 F5 P5 => ?_))
  refine assignInOrder_nil (Ba _ σ1 ?_ F5 (((p12.wide.trans P3).trans P4).trans P5))
  rw [List.set_comm _ _ (Ne.symm hml), List.set_comm _ _ (Ne.symm hnl), List.set_comm (l := ρ) _ _ (Ne.symm hne)]; exact h1
 show wpAny _ _ (exec (.Assign [.Tuple (ts.map (trA nm)) 0 tp] (.Tuple (Bt nm es) 0 ep) p) env) _ _ _
 unfold dC at o5
 split at o5
 ·rename_i i pi j pj
  rw [Bool.or_eq_true] at o5
  rcases o5 with o5 | o5
  ·exact plain (Mo o5)
  ·refine Assign_Tuple_swapped (G2 (Q := fun vs σ => N7 (Bs h0) (Am prog w K h0 n) _ vs ρ σ N) o4 k he fun vs T σ1 s1 hl h1 ht p1 => ?_) rfl (aM eo.kind o3 o5)
   simp only [Bool.and_eq_true, beq_iff_eq, bne_iff_ne, ne_eq] at o5
   (refine zA o5 fun zq0 _ => ?_; have zq1 := zq0.1; have a4 := zq0.2; refine zA zq1 fun zq2 _ => ?_; have a1 := zq2.1; have a2 := zq2.2)
   rw [o3] at hl
   (refine zEE (Hi hl) fun a b zq0 => ?_; subst zq0)
   exact swap2 _ T σ1 s1 i j a b rfl ht p1 a1 a2 (fun q => a4 (by rw [q])) h1
 ·rename_i i pi j pj l pl
  rw [Bool.or_eq_true] at o5
  rcases o5 with o5 | o5
  ·exact plain (Mo o5)
  ·refine Assign_Tuple_swapped (G2 (Q := fun vs σ => N7 (Bs h0) (Am prog w K h0 n) _ vs ρ σ N) o4 k he fun vs T σ1 s1 hl h1 ht p1 => ?_) rfl (U7 eo.kind o3 o5)
   simp only [Bool.and_eq_true, beq_iff_eq, bne_iff_ne, ne_eq] at o5
   (refine zA o5 fun zq0 _ => ?_; have zq1 := zq0.1; have a8 := zq0.2; have zq2 := zq1.1; have a7 := zq1.2; have zq3 := zq2.1; have a6 := zq2.2; refine zA zq3 fun zq4 _ => ?_; refine zA zq4 fun zq5 _ => ?_; have zq6 := zq5.1; have a3 := zq5.2; have a1 := zq6.1; have a2 := zq6.2)
   rw [o3] at hl
   (refine Ha (En hl) fun a b c zq0 => ?_; subst zq0)
   exact swap3 _ T σ1 s1 i j l a b c rfl ht p1 a1 a2 a3 (fun q => a6 (by rw [q])) (fun q => a7 (by rw [q])) (fun q => a8 (by rw [q])) h1
 ·exact plain (Mo (by rw [List.length_map]; exact o5))
theorem Pk {env : Env} {nm : List Str} {t : At} {e el : Expr} {gs : List Comprehension} {sc : Scope} {vp : Pos} (he : e = .ListComp el gs sc vp) (hb : env.scope.kind = .function) (h : Fp env.kindOf nm t sc vp = true) (hl : ∃ i ip, t = .loc i ip) :
  ∃ i ip, t = .loc i ip ∧ B6 env.kindOf nm i = true ∧ ∀ l, swapsWith e (some (.Name (Ac nm i) ip)) l env = pure true := by
 subst he
 cases t with
 | loc i ip =>
  simp only [Fp, Bool.and_eq_true, beq_iff_eq] at h
  (have zq0 := h.1; have h3 := h.2; have h1 := zq0.1; have h2 := zq0.2)
  refine Ba i ip rfl h1 (fun l => ?_)
  simp only [B6, Bool.and_eq_true, beq_iff_eq] at h1
  show (pure (env.blockKind == .function && env.kindOf (Ac nm i) == some .local && ip.line == vp.line && !(sc.names.any fun (n, k) => n == Ac nm i && (k == .local || k == .cell))) : Sem Bool) = pure true
  rw [Fj hb, h1.2, h2, h3]
  simp
 | _ => refine zEE hl fun _ _ q => ?_; cases q
theorem Dw.stand {σ σ' : Aa} {s s3 : Shared} {acc : List V} {D C : Addr} (f : Dw h0 σ s acc D C σ' s3) : Ah h0 Aj σ s (σ'.put D (.list acc)) s3 := by
 refine zEA f.list fun xs hD hxs => ?_
 refine ⟨fun a x e => ?_, f.post.keep, f.post.live, fun a ha => ?_, f.post.os, f.post.gens⟩
 ·by_cases q : a = D
  ·subst q; rw [Aa.put_self] at e; cases e; exact Ay xs hD hxs f.len
  ·rw [Aa.put_ne _ _ q] at e; exact f.post.sat a x e
 ·by_cases q : a = D
  ·subst q; exact .inr f.df
  ·rw [Aa.put_ne _ _ q] at ha; exact f.post.dom a ha
theorem Ah.drops {own : Addr → Prop} {σ σ' : Aa} {s s' : Shared} {C : Addr} {h' : Heap} (p : Ah h0 own σ s σ' s') (hC : s.heap.get? C = none) (hs : Heap.SameBut C s'.heap h') (hn : σ' C = none) : Ah h0 own σ s σ' { s' with heap := h' } := by
 refine ⟨fun a x e => ?_, fun a o e h1 h2 => ?_, fun a o e => ?_, p.dom, p.os, p.gens⟩
 ·exact (p.sat a x e).at' fun _ e' => (hs.2 a fun z => by subst z; rw [hn] at e; cases e).trans e'
 ·exact (hs.2 a fun z => by subst z; rw [hC] at e; cases e).trans (p.keep a o e h1 h2)
 ·refine zE (p.live a o e) fun o' e' => ?_
  exact ⟨o', (hs.2 a fun z => by subst z; rw [hC] at e; cases e).trans e'⟩
theorem Fm.own_there {env : Env} {nm : List Str} {ρ : Loc} {σ : Aa} {h : Heap} (F : Fm env nm ρ σ h) : ∀ a, Ab env a → ∃ o, h.get? a = some o := fun a ha => by
 rcases ha with rfl | ⟨x, hc⟩
 ·(refine zEA F.ns fun m zq0 _ => ?_; refine It zq0 fun o _ _ q _ => ?_); exact ⟨o, q⟩
 ·refine Ei (F.any x a hc) fun v o q _ => ?_; exact ⟨o, q⟩
theorem Dw.use {env : Env} {nm : List Str} {ρ : Loc} {N : Loc → Aa → Prop} {Rt : V → Aa → Prop} {σ σ' : Aa} {s s3 : Shared} {acc : List V} {D C : Addr} {A : Around} {E : Value → Shared → Prop} {i : Nat} {ip : Pos} (eo : Ax h0 env) (ap : Ds env) (hnd : An nm = true) (k : Ok h0 σ s) (F : Fm env nm ρ σ s.heap)
  (hi : B6 env.kindOf nm i = true) (f : Dw h0 σ s acc D C σ' s3) (h : Co (Bs h0) (.list acc) σ' fun v σ => N (ρ.set i (some v)) σ) :
  compPost (model prog w) A E (some (assign (.Name (Ac nm i) ip) env)) (fun _ => Flq h0 env nm N Rt σ s .next) (.ref D) C (.ok .next) s3 := by
 refine zE f.ns fun m hm => ?_
 have nC : ¬ Ab env C := fun q => by refine zE (F.own_there C q) fun o e => ?_; rw [f.cf] at e; cases e
 have P1 := f.stand
 have hCn : (σ'.put D (.list acc)) C = none := by rw [Aa.put_ne _ _ f.cd]; exact f.cn
 refine wpAny_assign_Name (Cg (v := .ref D) eo ap hnd (k.post0 P1) (F.post P1) (E3 hi) fun h4 tk4 F4 P4 => ?_)
 refine iEA m (hm.at' fun o e => P4.keep C o e (.inl hCn) nC) (fun h5 hs => ?_)
 refine Ba _ _ (h D _ (k.bs f.df) f.dn (Gm f.dn) (Aa.put_self ..)) ?_ ((P1.wide.trans P4).drops f.cf hs hCn)
 exact F4.mono fun a ha o e => (hs.2 a fun z => nC (z ▸ ha)).trans e
include G in
theorem Yb (t : At) (e : Ex) (p : Pos) : Is prog w K h0 n (.asg t e p) := by
 intro env nm ρ σ N Rt s A E ok hnd eo ap R k F h
 replace ok := bd4 ok
 (refine zA ok fun zq0 o4 => ?_; have zq1 := zq0.1; have o3 := zq0.2; have o1 := zq1.1; have o2 := zq1.2)
 have one : (∀ l, swapsWith (trE nm e) (some (trA nm t)) l env = pure false) → wpAny (model prog w) A (exec (.Assign [trA nm t] (trE nm e) p) env) (Flq h0 env nm N Rt σ s) E s := fun hc => by
  have he : (assignEach [trA nm t] env).map (·.2) = [assign (trA nm t) env] := by cases t <;> rfl
  have hw : swappedStores [trA nm t] (trE nm e) env = pure none := by
   cases t <;> first | (cases o3; done) | rfl
  refine wpAny_Assign_stores (wpAny_mono (Bj G e o1 eo R k F h) (fun v s1 => yEA fun σ1 h1 p1 => ?_) fun _ _ e => e) (hc _) hw
  rw [he]
  exact wpAny_mono (Ru G t o2 hnd eo ap R (k.post0 p1) (F.post p1) h1) (fun _ s2 r => r.up p1.wide) fun _ _ e => e
 have used : ∀ el gs sc vp, trE nm e = .ListComp el gs sc vp → Fp env.kindOf nm t sc vp = true → (∃ i ip, t = .loc i ip) →
   (∀ i ip, B6 env.kindOf nm i = true → t = .loc i ip → wpAny (model prog w) A (evalThenUse (trE nm e) env (assign (.Name (Ac nm i) ip) env)) (fun _ => Flq h0 env nm N Rt σ s .next) E s) →
   wpAny (model prog w) A (exec (.Assign [trA nm t] (trE nm e) p) env) (Flq h0 env nm N Rt σ s) E s := fun el gs sc vp ee hu hl hh => by
  (refine Bv (Pk ee eo.kind hu hl) fun i ip zq0 hi hsw => ?_; subst zq0)
  show wpAny _ _ (exec (.Assign [.Name (Ac nm i) ip] (trE nm e) p) env) _ _ _
  rw [exec_Assign_Name_used _ _ _ _ (hsw _)]
  exact wpAny_bind (wpAny_standAt (wpAny_bind (wpAny_mono (hh i ip hi rfl) (fun _ _ r => wpAny_pure r) fun _ _ e => e)))
 show wpAny _ _ (exec (.Assign [trA nm t] (trE nm e) p) env) _ _ _
 have tl : (∃ i ip, t = .loc i ip) ∨ (∀ e l, swapsWith e (some (trA nm t)) l env = pure false) := by
  cases t with
  | loc i ip => exact .inl (iEE i ip rfl)
  | attr a k p =>
   right; intro e l
   unfold swapsWith
   cases e <;> rfl
  | idx a k p =>
   right; intro e l
   unfold swapsWith
   cases e <;> rfl
  | two => cases o3
 cases e with
 | comp el tg src sc cn cap vp =>
  rcases tl with tl | tl
  rotate_left
  ·exact one (tl _)
  refine used _ _ sc vp rfl o4 tl fun i ip hi et => ?_
  subst et
  show wpAny _ _ (evalThenUse (.ListComp (trE cn el) [⟨I3 cn tg, Ee nm src, [], 0⟩] sc vp) env _) _ _ _
  rw [arm_evalThenUse_ListComp]
  exact wpAny_bind (wpAny_mono (O0 (Ψ := fun _ => Flq h0 env nm N Rt σ s .next) (H9 G src) (Bj G el) o1 eo R k F h fun acc σ' s3 D C f a => f.use eo ap hnd k F hi a) (fun _ _ r => wpAny_pure r) fun _ _ e => e)
 | compIf el tg src c sc cn cap vp =>
  rcases tl with tl | tl
  rotate_left
  ·exact one (tl _)
  refine used _ _ sc vp rfl o4 tl fun i ip hi et => ?_
  subst et
  show wpAny _ _ (evalThenUse (.ListComp (trE cn el) [⟨I3 cn tg, Ee nm src, [trT cn c], 0⟩] sc vp) env _) _ _ _
  rw [arm_evalThenUse_ListComp]
  exact wpAny_bind (wpAny_mono (Ko (Ψ := fun _ => Flq h0 env nm N Rt σ s .next) (H9 G src) (Bj G el) (J7 G c) o1 eo R k F h fun acc σ' s3 D C f a => f.use eo ap hnd k F hi a) (fun _ _ r => wpAny_pure r) fun _ _ e => e)
 | _ => exact one fun l => De _ rfl
include G in
theorem Xu (ts : List At) (e : Ex) (tp p : Pos) : Is prog w K h0 n (.unp ts e tp p) := by
 intro env nm ρ σ N Rt s A E ok hnd eo ap R k F h
 replace ok := bd4 ok
 simp only [Bool.not_eq_true'] at ok
 (have zq0 := ok.1; have o4 := ok.2; have zq1 := zq0.1; have o3 := zq0.2; have o1 := zq1.1; have o2 := zq1.2)
 show wpAny _ _ (exec (.Assign [.Tuple (ts.map (trA nm)) 0 tp] (trE nm e) p) env) _ _ _
 refine Assign_Tuple (wpAny_mono (Bj G e o2 eo R k F h) (fun v s1 => yEA fun σ1 h1 p1 => ?_) fun _ _ e => e) (De (nm := nm) (env := env) (t := some (.Tuple (ts.map (trA nm)) 0 tp)) (l := p.line) e o4) (Lg e o3)
 dsimp only at h1
 unfold Ka at h1
 split at h1
 ·rename_i x ex
  (refine zEA h1 fun vs zq0 h1 => ?_; have hx := zq0.1; have hl := zq0.2)
  have k1 := k.post0 p1
  refine Bv (k1.sat _ _ hx) fun xs m g exs _ => ?_
  subst exs
  rw [Av ex]
  refine zAA (Km (nm := nm) (env := env) ts) fun e1 e2 e3 => ?_
  refine wpAny_assign_Tuple (items := xs) R.handled (Ay _ g rfl ⟨m, rfl⟩) (by rw [e1, ← hl]; simp) e2 fun h2 hx => ?_
  rw [e3]
  have P2 : Ah h0 Aj σ1 s1 σ1 { s1 with heap := h2, toks := s1.toks } := .junk k1 fun b o e => hx b o (Nat.ne_of_lt (Heap.lt_size e)) e
  have p12 := p1.trans P2
  exact wpAny_mono (J6 G hnd eo ap R ts xs.toList (s := { s1 with heap := h2, toks := s1.toks }) o1 (k.post0 p12) (F.post p12) h1) (fun _ s3 r => r.up p12.wide) fun _ _ e => e
 ·exact h1.elim
theorem bA {o : Option V} {P : Int → Prop} (h : match o with | some (.int a) => P a | _ => False) : ∃ a, o = some (.int a) ∧ P a := by
 cases o with
 | none => exact h.elim
 | some v => cases v with
  | int a => exact iEA a rfl h
  | _ => exact False.elim h
include G in
theorem X9 (i : Nat) (q : Pos) (o : Operator) (e : Ex) (p : Pos) : Is prog w K h0 n (.aug i q o e p) := by
 intro env nm ρ σ N Rt s A E ok hnd eo ap R k F h
 replace ok := bd3 ok
 (have zq0 := ok.1; have o3 := ok.2; have o1 := zq0.1; have o2 := zq0.2)
 have o1' := o1
 simp only [B6, Bool.and_eq_true, decide_eq_true_eq, beq_iff_eq] at o1'
 refine zEA (bA (o := ρ.getD i none) (P := fun a => wpE (Bs h0) (Am prog w K h0 n) e ρ σ fun b σ => Ua (Bs h0) o (.int a) b σ fun v σ => N (ρ.set i (some v)) σ) h) fun a ha h => ?_
 refine zEA F.ns fun m hn hm => ?_
 refine zEA (hm i _ (.int a) (Cj o1'.1) o1'.2 ha) fun u e1 e2 => ?_
 refine wpAny_AugAssign_Name (wpAny_loadName_local eo.kind o1'.2 hn e1 ?_)
 refine wpAny_mono (Bj G e o3 eo R k F h) (fun b s1 => yEA fun σ1 h1 p1 => ?_) fun _ _ e => e
 refine wpAny_mono (Qp (Q := fun v σ => N (ρ.set i (some v)) σ) (k.post0 p1) (by cases o <;> first | (cases o2; done) | simp) ⟨a, e2⟩ (by rw [e2]; exact h1)) (fun v s2 => yEA fun σ2 h2 p2 => ?_) fun _ _ e => e
 have p12 := p1.trans p2
 exact Cg eo ap hnd (k.post0 p12) (F.post p12) (E3 o1) fun h3 tk3 F3 P3 => Ba _ σ2 h2 F3 (p12.wide.trans P3)
include G in
theorem Vi (e : Ex) (p : Pos) : Is prog w K h0 n (.expr e p) := by
 intro env nm ρ σ N Rt s A E ok hnd eo ap R k F h
 replace ok := bd2 ok
 simp only [Bool.not_eq_true'] at ok
 refine wpAny_Expr (wpAny_mono (Bj G e ok.1 eo R k F h) (fun v s1 ⟨σ1, ⟨hv, h1⟩, p1⟩ => ?_) fun _ _ e => e) (by unfold interactive; rw [eo.kind]; rfl) (De e ok.2)
 have : v = .none := Mi hv
 subst this
 exact Ba ρ σ1 h1 (F.post p1) p1.wide
include G in
theorem Vm {a b : Sts} (ha : I2 prog w K h0 n a) (hb : I2 prog w K h0 n b) (c : Tst) (p : Pos) : Is prog w K h0 n (.cond c a b p) := by
 intro env nm ρ σ N Rt s A E ok hnd eo ap R k F h
 replace ok := bd3 ok
 refine wpAny_If (wpAny_mono (J7 G c ok.1.1 eo R k F h) (fun t s1 => yEA fun σ1 h1 p1 => ?_) fun _ _ e => e)
 cases t with
 | true => rw [if_pos rfl]; exact wpAny_mono (ha ok.1.2 hnd eo ap R (k.post0 p1) (F.post p1) (h1.1 rfl)) (fun f s2 r => r.up p1.wide) fun _ _ e => e
 | false => rw [if_neg (by decide)]; exact wpAny_mono (hb ok.2 hnd eo ap R (k.post0 p1) (F.post p1) (h1.2 rfl)) (fun f s2 r => r.up p1.wide) fun _ _ e => e
include G in
theorem Xw (e : Ex) (p : Pos) : Is prog w K h0 n (.ret e p) := by
 intro env nm ρ σ N Rt s A E ok hnd eo ap R k F h
 exact wpAny_Return_some (wpAny_mono (Bj G e ok eo R k F h) (fun v s1 => yEA fun σ1 h1 p1 => ⟨σ1, h1, p1.wide⟩) fun _ _ e => e)
theorem Vf (p : Pos) : Is prog w K h0 n (.ret0 p) := by
 intro env nm ρ σ N Rt s A E ok hnd eo ap R k F h
 exact wpAny_Return_none (iEA σ h (.refl k))
theorem Vk (st : Stmt) : Is prog w K h0 n (.dead st) := by
 intro env nm ρ σ N Rt s A E ok hnd eo ap R k F h
 exact h.elim
include G in
theorem Vd {b : Sts} (hb : I2 prog w K h0 n b) (c : Tst) (p : Pos) : Is prog w K h0 n (.whil c b p) := by
 intro env nm ρ σ N Rt s A E ok hnd eo ap R k F h
 replace ok := bd2 ok
 (refine Bv h fun I X zq0 hstep hX => ?_; refine zE zq0 fun n0 h0' => ?_)
 refine wpAny_While (codeAny_whileLoop (fun m s' => ∃ ρ' σ', I m ρ' σ' ∧ Fm env nm ρ' σ' s'.heap ∧ Ah h0 (Ab env) σ s σ' s') (fun m s' hI => ?_) n0 ⟨ρ, σ, h0', F, .refl k⟩)
 refine Bv hI fun ρ' σ' hi F' P' => ?_
 have k' := k.post P' eo.own
 refine wpAny_mono (J7 G c ok.1 eo R k' F' (hstep m ρ' σ' hi)) (fun t s1 => yEA fun σ1 h1 p1 => ?_) fun _ _ e => e
 have k1 := k'.post0 p1
 have F1 := F'.post p1
 cases t with
 | true =>
  rw [if_pos rfl]
  refine wpAny_mono (hb ok.2 hnd eo ap R k1 F1 (h1.1 rfl)) (fun f s2 r => ?_) fun _ _ e => e
  cases f with
  | next =>
   (refine Bv r fun ρ2 σ2 zq0 F2 P2 => ?_; refine zEA zq0 fun m' hm hi' => ?_)
   exact iEA m' hm (Ba ρ2 σ2 hi' F2 ((P'.trans p1.wide).trans P2))
  | ret v =>
   refine zEA r fun σ2 hr P2 => ?_
   exact iEA σ2 hr ((P'.trans p1.wide).trans P2)
  | _ => exact r.elim
 | false =>
  rw [if_neg (by decide)]
  exact wpAny_execs_nil (Ba ρ' σ1 (hX _ _ (h1.2 rfl)) F1 (P'.trans p1.wide))
include G in
theorem Vh {b : Sts} (hb : I2 prog w K h0 n b) (t : Tg) (src : Src) (p : Pos) : Is prog w K h0 n (.forr t src b p) := by
 intro env nm ρ σ N Rt s A E ok hnd eo ap R k F h
 replace ok := bd4 ok
 (refine zA ok fun zq0 o4 => ?_; have zq1 := zq0.1; have o3 := zq0.2; have o1 := zq1.1; have o2 := zq1.2)
 refine wpAny_For (wpAny_mono (H9 G src (E := E) o3 eo R k F h) (fun x s1 h1 => wpAny_mono h1 (fun it s2 h2 => ?_) fun _ _ e => e) fun _ _ e => e) (G8 src)
 refine Jj h2 fun Ia wr items g St σ2 r => ?_
 refine L3 r.q fun I i0 ig istep iend => ?_
 rw [r.it]
 have k2 := k.post0 r.post
 have F2 := F.post r.post
 have W := r.iter env nm _ t o1 eo (U4 eo ap hnd o2)
 have wr2 : ∀ b ∈ wr, ∃ o, s2.heap.get? b = some o := r.here _ _ r.start
 have wrn : ∀ b ∈ wr, ¬ Ab env b ∧ Bs h0 b := fun b hb => ⟨fun q => (by refine zE (F.own_there b q) fun o e => ?_; rw [(r.fresh b hb).1] at e; cases e), k.bs (r.fresh b hb).1⟩
 have ended : ∀ {σ' s1 s'} (P1 : Ah h0 (fun a => Ab env a ∨ a ∈ wr) σ2 s2 σ' s1) (ok' : Ok h0 σ' s') (hkeep : ∀ b o, b ∉ wr → s1.heap.get? b = some o → s'.heap.get? b = some o) (ho : s'.os = s1.os) (hg : s'.gens = s1.gens), Ah h0 (Ab env) σ s σ' s' :=
  fun P1 ok' hkeep ho hg => r.post.ended P1 ok' hkeep ho hg (fun b hb => (r.fresh b hb).1) fun a ha => by
   rcases ha with ha | ha
   ·exact .inl ha
   ·exact .inr (r.fresh a ha).1
 refine codeAny_forLoop_any (fun m s' => ∃ j ρ' σ', j ≤ items.length ∧ m = items.length + 1 - j ∧ I j ρ' σ' ∧ Ok h0 σ' s' ∧ Fm env nm ρ' σ' s'.heap ∧ St j s'.heap ∧ (∀ b ∈ wr, σ' b = none) ∧ Ah h0 (fun a => Ab env a ∨ a ∈ wr) σ2 s2 σ' s')
  (fun m s' hI => ?_) (items.length + 1) (Bn 0 ρ σ2 (Nat.zero_le _) rfl i0 k2 ⟨F2, r.start, fun b hb => (r.fresh b hb).2, .refl k2⟩)
 (refine Jx hI fun j ρ' σ' hj zq0 hi k' zq1 => ?_; subst zq0; refine G1 zq1 fun F' st hw P => ?_)
 have hw' : ∀ b ∈ wr, σ' b = none ∧ ¬ Ab env b ∧ Bs h0 b := fun b hb => ⟨hw b hb, wrn b hb⟩
 rcases Nat.lt_or_ge j items.length with hlt | hge
 ·have hit : items[j]? = some items[j] := List.getElem?_eq_getElem hlt
  refine W.turn j s' σ' ρ' _ _ _ _ hit (ig _ _ _ hi) k' F' hw' st fun s3 k3 F3 st3 P3 => ?_
  refine wpAny_mono (hb o4 hnd eo ap R k3 F3 (istep j ρ' σ' _ hi hit)) (fun f s4 r4 => ?_) fun _ _ e => e
  have P03 : Ah h0 (fun a => Ab env a ∨ a ∈ wr) σ2 s2 σ' s3 := P.trans P3
  cases f with
  | next =>
   refine Bv r4 fun ρ4 σ4 hi4 F4 P4 => ?_
   refine iEA (items.length + 1 - (j + 1)) (o63 hlt) (Bn (j + 1) ρ4 σ4 hlt rfl hi4 (k3.post P4 eo.own) ⟨F4, ?_, fun b hb => P4.unk (hw b hb) (r.here _ _ st3 b hb), P03.trans (P4.widen fun a q => .inl q)⟩)
   exact r.frame _ _ _ (fun b hb o e => P4.stays (hw b hb) (wrn b hb).1 e) st3
  | ret v =>
   refine zEA r4 fun σ4 hr P4 => ?_
   exact iEA σ4 hr (ended (P03.trans (P4.widen fun a q => .inl q)) (k3.post P4 eo.own) (fun b o _ e => e) rfl rfl)
  | _ => exact r4.elim
 ·have hke : j = items.length := Nat.le_antisymm hj hge
  subst hke
  refine W.done s' σ' ρ' _ _ _ (ig _ _ _ hi) k' F' hw' st fun s3 k3 F3 hlv hkeep ho hgn => ?_
  exact wpAny_execs_nil (Ba ρ' σ' (iend _ _ hi) F3 (ended P k3 hkeep ho hgn))
theorem Ss : I2 prog w K h0 n .nil := by
 intro env nm ρ σ N Rt s A E ok hnd eo ap R k F h
 exact wpAny_execs_nil (Ba ρ σ h F (.refl k))
theorem Vb {st : St} {b : Sts} (hs : Is prog w K h0 n st) (hb : I2 prog w K h0 n b) : I2 prog w K h0 n (.cons st b) := by
 intro env nm ρ σ N Rt s A E ok hnd eo ap R k F h
 replace ok := bd2 ok
 refine wpAny_execs_cons (wpAny_mono (hs ok.1 hnd eo ap R k F h) (fun f s1 r => ?_) fun _ _ e => e)
 cases f with
 | next =>
  refine Bv r fun ρ1 σ1 h1 F1 P1 => ?_
  exact wpAny_mono (hb ok.2 hnd eo ap R (k.post P1 eo.own) F1 h1) (fun f s2 r => r.up P1) fun _ _ e => e
 | ret v => exact r
 | _ => exact r.elim
include G in
mutual
theorem cZ : ∀ st : St, Is prog w K h0 n st
 | .asg t e p => Yb G t e p
 | .asgs ts es tp ep p => Vr G ts es tp ep p
 | .unp ts e tp p => Xu G ts e tp p
 | .aug i q o e p => X9 G i q o e p
 | .expr e p => Vi G e p
 | .cond c a b p => Vm G (J8 a) (J8 b) c p
 | .whil c b p => Vd G (J8 b) c p
 | .forr t s b p => Vh G (J8 b) t s p
 | .ret e p => Xw G e p
 | .ret0 p => Vf p
 | .dead st => Vk st
theorem J8 : ∀ b : Sts, I2 prog w K h0 n b
 | .nil => Ss
 | .cons s b => Vb (cZ s) (J8 b)
end
noncomputable def entry (m : Nat) (vs : List V) : Loc := vs.map some ++ List.replicate (m - vs.length) none
theorem Mb {m : Nat} {vs : List V} {i : Nat} {v : V} (h : (entry m vs).getD i none = some v) : vs[i]? = some v := by
 unfold entry at h
 rw [List.getD_eq_getElem?_getD] at h
 rcases Nat.lt_or_ge i vs.length with q | q
 ·rw [List.getElem?_append_left (by simpa using q), List.getElem?_map] at h
  rw [List.getElem?_eq_getElem q] at h ⊢
  simpa using h
 ·rw [List.getElem?_append_right (by simpa using q), List.getElem?_replicate] at h
  split at h <;> cases h
theorem O3 {kd : Str → Option NameKind} : ∀ {names : List Str} {vals : List Value} {m : Str → Option Value} {x : Str}, x ∉ names → bindL kd (names.zip vals) m x = m x
 | [], _, _, _, _ => by rfl
 | _ :: _, [], _, _, _ => by rfl
 | y :: r, v :: vs, m, x, h => by
  rw [List.zip_cons_cons, bindL, O3 fun q => h (.tail _ q)]
  split
  ·exact if_neg (fun q : x = y => h (by rw [q]; exact .head _))
  ·rfl
theorem Kt {kd : Str → Option NameKind} : ∀ {names : List Str} {vals : List Value} {m : Str → Option Value} {i : Nat} {x : Str} {v : Value}, An names = true → names[i]? = some x → vals[i]? = some v → kd x = some .local → bindL kd (names.zip vals) m x = some v
 | [], _, _, _, _, _, _, h, _, _ => by simp at h
 | _ :: _, [], _, _, _, _, _, _, h, _ => by simp at h
 | y :: r, u :: vs, m, 0, x, v, hn, h1, h2, hk => by
  simp only [An, Bool.and_eq_true, Bool.not_eq_true'] at hn
  simp only [List.getElem?_cons_zero, Option.some.injEq] at h1 h2
  subst h1 h2
  rw [List.zip_cons_cons, bindL, O3 (fun q => by have := hn.1; rw [List.contains_iff_mem.mpr q] at this; cases this), if_pos hk]
  exact if_pos rfl
 | y :: r, u :: vs, m, i + 1, x, v, hn, h1, h2, hk => by
  simp only [An, Bool.and_eq_true] at hn
  rw [List.zip_cons_cons, bindL]
  exact Kt hn.2 (by simpa using h1) (by simpa using h2) hk
theorem O4 {kd : Str → Option NameKind} : ∀ {names : List Str} {vals : List Value} {m : Str → Option Value} {x : Str}, x ∉ names → bindC kd (names.zip vals) m x = m x
 | [], _, _, _, _ => by rfl
 | _ :: _, [], _, _, _ => by rfl
 | y :: r, v :: vs, m, x, h => by
  rw [List.zip_cons_cons, bindC, O4 fun q => h (.tail _ q)]
  split
  ·rfl
  ·exact if_neg (fun q : x = y => h (by rw [q]; exact .head _))
theorem Ku {kd : Str → Option NameKind} : ∀ {names : List Str} {vals : List Value} {m : Str → Option Value} {i : Nat} {x : Str} {v : Value}, An names = true → names[i]? = some x → vals[i]? = some v → kd x ≠ some .local → bindC kd (names.zip vals) m x = some v
 | [], _, _, _, _, _, _, h, _, _ => by simp at h
 | _ :: _, [], _, _, _, _, _, _, h, _ => by simp at h
 | y :: r, u :: vs, m, 0, x, v, hn, h1, h2, hk => by
  simp only [An, Bool.and_eq_true, Bool.not_eq_true'] at hn
  simp only [List.getElem?_cons_zero, Option.some.injEq] at h1 h2
  subst h1 h2
  rw [List.zip_cons_cons, bindC, O4 (fun q => by have := hn.1; rw [List.contains_iff_mem.mpr q] at this; cases this), if_neg hk]
  exact if_pos rfl
 | y :: r, u :: vs, m, i + 1, x, v, hn, h1, h2, hk => by
  simp only [An, Bool.and_eq_true] at hn
  rw [List.zip_cons_cons, bindC]
  exact Ku hn.2 (by simpa using h1) (by simpa using h2) hk
theorem Il : ∀ {names : List (Str × NameKind)} {k : Nat} {acc : List (Str × Addr)} {x : Str}, (acc.lookup x).isSome = true → ((cellsFrom k names acc).lookup x).isSome = true
 | [], _, _, _, h => h
 | (y, kd) :: r, k, acc, x, h => by
  unfold cellsFrom
  split
  ·refine Il ?_
   rw [List.lookup_cons]
   split
   ·rfl
   ·exact h
  ·exact Il h
theorem Et : ∀ {names : List (Str × NameKind)} {k : Nat} {acc : List (Str × Addr)} {x : Str}, (x, NameKind.cell) ∈ names → ((cellsFrom k names acc).lookup x).isSome = true
 | (y, kd) :: r, k, acc, x, h => by
  unfold cellsFrom
  rcases List.mem_cons.mp h with e | h
  ·cases e
   rw [if_pos (by rfl)]
   exact Il (by rw [List.lookup_cons]; simp)
  ·split <;> exact Et h
theorem Gn : ∀ {names : List (Str × NameKind)} {k : Nat} {acc : List (Str × Addr)}, An (names.map (·.1)) = true → (∀ y ∈ names, ∀ c, (y.1, c) ∉ acc) → (∀ x c, (x, c) ∈ acc → acc.lookup x = some c) → ∀ x c, (x, c) ∈ cellsFrom k names acc → (cellsFrom k names acc).lookup x = some c
 | [], _, _, _, _, h, x, c, m => h x c m
 | (y, kd) :: r, k, acc, hn, hd, h, x, c, m => by
  simp only [List.map_cons, An, Bool.and_eq_true, Bool.not_eq_true'] at hn
  unfold cellsFrom at m ⊢
  split at m
  ·rename_i hk
   rw [if_pos hk]
   refine Gn hn.2 (fun z hz c' q => ?_) (fun z c' hz => ?_) x c m
   ·rcases List.mem_cons.mp q with e | q
    ·have e1 : z.1 = y := (Prod.mk.inj e).1
     have : y ∈ r.map (·.1) := List.mem_map.mpr (iEA z hz e1)
     have q' := hn.1
     rw [List.contains_iff_mem.mpr this] at q'; cases q'
    ·exact hd z (.tail _ hz) c' q
   ·rw [List.lookup_cons]
    rcases List.mem_cons.mp hz with e | hz2
    ·cases e; simp
    ·have : (z == y) = false := by
      rw [beq_eq_false_iff_ne]; intro e
      exact hd (y, kd) (.head _) c' (e ▸ hz2)
     rw [this]; exact h z c' hz2
  ·rename_i hk
   rw [if_neg hk]
   exact Gn hn.2 (fun z hz c' q => hd z (.tail _ hz) c' q) h x c m
theorem Ah.narrow {own : Addr → Prop} {σ σ' : Aa} {s s' : Shared} (p : Ah h0 own σ s σ' s') (h : ∀ a, own a → s.heap.get? a = none) : Ah h0 Aj σ s σ' s' :=
 ⟨p.sat, fun a o e h1 _ => p.keep a o e h1 fun q => (by rw [h a q] at e; cases e), p.live, p.dom, p.os, p.gens⟩
include G in
theorem bT {f : Addr} {name qual : Str} {params : Arguments} {scope : Scope} {dV kV doc pm cdv ct oc : Value} {an od : Option Addr} {osl : Array (Option Value)} {nm : List Str} {bd : Sts} {k : Nat} {vs : List V} {σ : Aa} {Q : V → Aa → Prop}
  (ho : K.lookup f = some ⟨oc, od, .func (fnOf name qual params (C8 nm bd) scope dV kV doc pm an cdv ct), osl⟩) (hcd : codeIn K cdv qual = true)
  (hk : scope.kind = .function) (hsn : An (scope.names.map (·.1)) = true) (hco : scope.isCoroutine = false) (hgen : scope.isGenerator = false) (hnd : An nm = true) (hnd' : An (nm.take k) = true) (hok : Fs (fun x => scope.names.lookup x) nm bd = true)
  (hbind : ∀ vals : List Value, vals.length = k → bindArgs (fnOf name qual params (C8 nm bd) scope dV kV doc pm an cdv ct) ⟨vals, []⟩ = pure ((nm.take k).zip vals))
  (hpar : (nm.take k).all (fun x => scope.names.lookup x == some .local || scope.names.lookup x == some .cell) = true) (hkl : k ≤ nm.length) (hv : vs.length = k)
  (h : Di (Bs h0) (Am prog w K h0 n) bd (entry nm.length vs) σ (fun _ σ => Q .none σ) Q) : Am prog w K h0 (n + 1) (.ref f) vs σ Q := by
 refine Ay f rfl (by unfold keepIn; dsimp only; rw [show List.lookup f K = _ from ho]) (fun A s vals R kk hvs => ?_)
 have X := G.X.keeps kk.base
 have hvl : vals.length = k := by rw [← hv, ← hvs, List.length_map]
 have hpar' : ∀ x ∈ nm.take k, scope.names.lookup x = some .local ∨ scope.names.lookup x = some .cell := fun x hx => by
  have := List.all_eq_true.mp hpar x hx
  simpa using this
 refine codeAny_call_cells (fd := fnOf name qual params (C8 nm bd) scope dV kV doc pm an cdv ct) (body := C8 nm bd) (binds := (nm.take k).zip vals) (by have := R.depth; show _ < 1000; exact ln 0x2223e83fb013843fb1b1a0a01 [A.depth, n] this) (X _ _ ho) rfl (G.lim.keeps kk.base) (codeRec_of X hcd) rfl (hbind vals hvl) rfl
  (fun x hx => ?_) (fun s1 x => ?_) hco hgen hk
 ·have hm : x.1 ∈ nm.take k := (List.of_mem_zip hx).1
  rcases hpar' _ hm with q | q
  ·exact .inl q
  ·exact .inr ⟨q, Et (mem_of_lookup (α := NameKind) q)⟩
 generalize he : callEnvC (fnOf name qual params (C8 nm bd) scope dV kV doc pm an cdv ct) s.heap.objs.size f = env at x ⊢
 have hkd : env.kindOf = fun x => scope.names.lookup x := by rw [← he]; rfl
 have hL : s.heap.get? env.locals = none := by rw [← he]; exact get?_size _
 have hLs : env.locals = s.heap.objs.size := by rw [← he]; rfl
 have hcs : ∀ x c, (x, c) ∈ env.cells → s.heap.get? c = none := fun y c hc => by
  have := x.above y c hc
  cases e : s.heap.get? c with
  | none => rfl
  | some o => have lt := Heap.lt_size e; rw [hLs] at this; exact absurd (Nat.lt_trans this lt) (Nat.lt_irrefl _)
 have own : ∀ a, Ab env a → s.heap.get? a = none := fun a ha => by
  rcases ha with rfl | ⟨y, hc⟩
  ·exact hL
  ·exact hcs y a hc
 have eo : Ax h0 env := by
  refine ⟨by rw [← he]; exact hk, by rw [← he]; rfl, by rw [← he]; rfl, kk.bs hL, fun y c hc => kk.bs (hcs y c hc), fun y hy => ?_, fun y c hc q => ?_⟩
  ·rw [hkd] at hy
   have := Et (k := s.heap.objs.size + 1) (acc := []) (mem_of_lookup (α := NameKind) hy)
   rw [← he]
   exact Option.isSome_iff_exists.mp this
  ·have := x.above y c hc; rw [q] at this; exact Nat.lt_irrefl _ this
 have ap : Ds env := fun y z c h1 h2 => name_of_addr x.apart (mem_of_lookup h1) (mem_of_lookup h2)
 have P1 : Ah h0 Aj σ s σ s1 := by
  (refine Ei x.done fun h' tk zq0 hkp => ?_; subst zq0)
  exact .junk kk hkp
 have F : Fm env nm (entry nm.length vs) σ s1.heap := by
  have pick : ∀ (i : Nat) y v, nm[i]? = some y → (entry nm.length vs).getD i none = some v → ∃ u, (nm.take k)[i]? = some y ∧ vals[i]? = some u ∧ Af u = v := fun i y v e1 e2 => by
   have e3 := Mb e2
   rw [← hvs, List.getElem?_map] at e3
   refine zEA (Option.map_eq_some_iff.mp e3) fun u hu eu => ?_
   have lt : i < k := by
    rcases Nat.lt_or_ge i k with q | q
    ·exact q
    ·rw [List.getElem?_eq_none (show vals.length ≤ i by exact ln 0x22221001202022 [vals.length, i, k] hvl q)] at hu; cases hu
   exact Ay u (by rw [List.getElem?_take, if_pos lt]; exact e1) hu eu
  refine ⟨iEA _ x.toInCall.ns (fun i y v e1 e2 e3 => ?_), fun i y v e1 e2 e3 => ?_, fun y c hc => ?_, fun a ha => kk.fresh (own a ha)⟩
  ·refine A6 (pick i y v e1 e3) fun u h1 h2 h3 => ?_
   exact iEA u (Kt hnd' h1 h2 e2) h3
  ·refine A6 (pick i y v e1 e3) fun u h1 h2 h3 => ?_
   refine zE (eo.lk y e2) fun c hc => ?_
   refine Ba c u hc ?_ h3
   have := x.cell y c hc
   rwa [Ku hnd' h1 h2 (by rw [e2]; decide)] at this
  ·refine ⟨_, x.cell y c ?_⟩
   rw [← he] at hc ⊢
   exact Gn (acc := []) hsn (fun _ _ _ q => nomatch q) (fun _ _ q => nomatch q) y c hc
 have R1 : Cy (A.deeper env) n := ⟨by have := R.depth; show A.depth + 1 + n ≤ 900; exact ln 0x2223843fb11b0aa03843fb1b1a0a01 [A.depth, n] this, by have := R.units; show A.units + 3 + 100 * n ≤ 5000; exact ln 0x22213884fb1642f83b0aa013884fb1b1a642f80a01 [A.units, n] this, R.handled⟩
 refine wpAny_mono (J8 G bd (N := fun _ σ => Q .none σ) (Rt := Q) (by rw [hkd]; exact hok) hnd eo ap R1 (kk.post0 P1) F h) (fun fl s2 r => ?_) fun _ _ e => e
 cases fl with
 | next =>
  refine Bv r fun ρ' σ' h1 _ P2 => ?_
  exact Ba _ σ' rfl h1 ((P1.wide.trans P2).narrow own)
 | ret v =>
  refine zEA r fun σ' h1 P2 => ?_
  exact Ba _ σ' rfl h1 ((P1.wide.trans P2).narrow own)
 | _ => exact r.elim
include G in
theorem Zm {fI : Addr} {vs : List V} {σ : Aa} {Q : V → Aa → Prop} (hm : makesIn K LAT = true) (hkp : keepIn K (.ref LAT) = true) (hi : findIn K (.ref LAT) "__init__" = some (some (.ref fI))) (hf : typeIn K (.ref fI) = some (.type "function"))
  (h : ∀ x dx σ', Bs h0 x → Bs h0 dx → σ x = none → σ dx = none → x ≠ dx → Ext σ σ' → σ' x = some (.inst dx) → σ' dx = some (.dict []) → Am prog w K h0 n (.ref fI) (.ref x :: vs) σ' fun v σ'' => v = .none ∧ Q (.ref x) σ'') :
  Am prog w K h0 (n + 1) (.ref LAT) vs σ Q := by
 refine Ay LAT rfl hkp (fun A s vals R k hvs => ?_)
 have X := G.X.keeps k.base
 obtain ⟨hh, g, d, t, os⟩ := s
 have f1 : hh.get? hh.objs.size = none := get?_size _
 have f2 : (hh.push emptyDict).get? (hh.objs.size + 1) = none := by
  have := get?_size (hh.push emptyDict); rwa [Heap.size_push] at this
 have f2' : hh.get? (hh.objs.size + 1) = none := by
  cases e : hh.get? (hh.objs.size + 1) with
  | none => rfl
  | some o => rw [Heap.get?_push_of_some _ e] at f2; cases f2
 have k1 := Ah.alloc (own := Aj) (ob := emptyDict) (o := .dict []) k ⟨[], 0, Heap.get?_push_size _ rfl, ⟨rfl, fun i e he => by simp at he⟩, by simp⟩
 have ok1 := k.post0 k1
 have e2 : ((hh.push emptyDict).push (instObj LAT hh.objs.size)).get? (hh.objs.size + 1) = some (instObj LAT hh.objs.size) := by
  have := Heap.get?_push_size (hh.push emptyDict) (o := instObj LAT hh.objs.size) rfl
  rwa [Heap.size_push] at this
 have k2 := Ah.made (own := Aj) (tk := t) (h' := (hh.push emptyDict).push (instObj LAT hh.objs.size)) (r := hh.objs.size + 1) (o := .inst hh.objs.size) ok1 (fun b ob e => Heap.get?_push_of_some _ e) f2 e2
 have ok2 := ok1.post0 k2
 have P := k1.trans k2
 have hne : hh.objs.size + 1 ≠ hh.objs.size := Nat.succ_ne_self _
 obtain ⟨a, ea, hka, hc⟩ := h (hh.objs.size + 1) hh.objs.size _ (k.bs f2') (k.bs f1) (k.fresh f2') (k.fresh f1) hne
  (fun b o e => by
   have := Gm (o := .inst hh.objs.size) (σ := σ.put hh.objs.size (.dict [])) (a := hh.objs.size + 1) (by rw [Aa.put_ne _ _ hne]; exact k.fresh f2') b o (Gm (k.fresh f1) b o e)
   exact this) (Aa.put_self ..) (by rw [Aa.put_ne _ _ (Ne.symm hne)]; exact Aa.put_self ..)
 cases ea
 refine make_core (makes_of X hm) (looks_findIn X hi) (fun self => bind_fn X self hf) (.inl rfl) ?_
 have w1 : Code.weight (.builtin "type.__call__" ⟨.ref LAT :: vals, []⟩) = 1 := by kernel_rfl
 have w2 : Code.cUnits (.builtin "type.__call__" ⟨.ref LAT :: vals, []⟩) ≤ 97 := by
  have : Code.cUnits (.builtin "type.__call__" ⟨.ref LAT :: vals, []⟩) = 1 := by kernel_rfl
  exact ln 0x222612fb001b021 [(Code.builtin "type.__call__" { pos := Value.ref LAT :: vals }).cUnits] this
 have R1 : Cy (A.under (.builtin "type.__call__" ⟨.ref LAT :: vals, []⟩)) n := ⟨by have := R.depth; show A.depth + Code.weight _ + n ≤ 900; exact ln 0x22223843fb210aa03843fb1b2a0a01b122 [A.depth, (Code.builtin "type.__call__" { pos := Value.ref LAT :: vals }).weight, n] w1 this, by have := R.units; show A.units + Code.cUnits _ + 100 * n ≤ 5000; exact ln 0x222213884fb2642f810aa013884fb1b2a642f80a0612fb102 [A.units, (Code.builtin "type.__call__" { pos := Value.ref LAT :: vals }).cUnits, n] w2 this, R.handled⟩
 refine codeAny_mono (hc _ _ (.ref (hh.objs.size + 1) :: vals) R1 ok2 (by rw [List.map_cons, hvs]; rfl)) fun r s' ⟨v, σ', er, ⟨hv, hq⟩, p⟩ => ?_
 subst er
 exact ⟨Mi hv, Ba _ σ' rfl hq (P.trans p)⟩
end
noncomputable def Bl (K : Frag) (f : Addr) (nm : List Str) (bd : Sts) (k : Nat) : Prop :=
 ∃ (oc : Value) (od : Option Addr) (osl : Array (Option Value)) (name qual : Str) (params : Arguments) (scope : Scope) (dV kV doc pm : Value) (an : Option Addr) (cdv ct : Value),
  K.lookup f = some ⟨oc, od, .func (fnOf name qual params (C8 nm bd) scope dV kV doc pm an cdv ct), osl⟩ ∧ codeIn K cdv qual = true ∧
  (scope.kind = .function ∧ An (scope.names.map (·.1)) = true ∧ scope.isCoroutine = false ∧ scope.isGenerator = false ∧ An nm = true ∧ An (nm.take k) = true ∧ Fs (fun x => scope.names.lookup x) nm bd = true ∧
   (nm.take k).all (fun x => scope.names.lookup x == some .local || scope.names.lookup x == some .cell) = true ∧ k ≤ nm.length) ∧
  (∀ vals : List Value, vals.length = k → bindArgs (fnOf name qual params (C8 nm bd) scope dV kV doc pm an cdv ct) ⟨vals, []⟩ = pure ((nm.take k).zip vals))
noncomputable def Qu : Stmt → Arguments
 | .FunctionDef _ a _ _ _ _ _ _ _ _ => a
 | _ => ⟨[], [], none, [], [], none, []⟩
noncomputable def Gl : Stmt → Scope
 | .FunctionDef _ _ _ _ _ _ sc _ _ _ => sc
 | _ => ⟨.function, [], false, false, []⟩
noncomputable def Qt : Stmt → Str
 | .FunctionDef n _ _ _ _ _ _ _ _ _ => n
 | _ => ""
noncomputable def Se (scope : Scope) (nm : List Str) (bd : Sts) (k : Nat) : Bool := An (scope.names.map (·.1)) && (!scope.isCoroutine && (!scope.isGenerator && (An nm && (An (nm.take k) && (Fs (fun x => scope.names.lookup x) nm bd && ((nm.take k).all (fun x => scope.names.lookup x == some .local || scope.names.lookup x == some .cell) && Nat.ble k nm.length))))))
theorem Qm {k : Nat} {p : List Value → Prop} (f : ∀ a v, v.length = k → p (a :: v)) : ∀ v : List Value, v.length = k + 1 → p v := fun v h => by
 cases v with
 | nil => exact nomatch h
 | cons a v => exact f a v (Nat.succ.inj h)
theorem len1 {p : List Value → Prop} (f : ∀ a0, p [a0]) : ∀ v : List Value, v.length = 1 → p v := Qm fun a v h => by
 cases v with
 | nil => exact f a
 | cons b v => exact nomatch h
theorem len2 {p : List Value → Prop} (f : ∀ a0 a1, p [a0, a1]) : ∀ v : List Value, v.length = 2 → p v := Qm fun a => len1 (p := fun v => p (a :: v)) (f a)
theorem Fn {p : List Value → Prop} (f : ∀ a0 a1 a2, p [a0, a1, a2]) : ∀ v : List Value, v.length = 3 → p v := Qm fun a => len2 (p := fun v => p (a :: v)) (f a)
theorem Os {p : List Value → Prop} (f : ∀ a0 a1 a2 a3, p [a0, a1, a2, a3]) : ∀ v : List Value, v.length = 4 → p v := Qm fun a => Fn (p := fun v => p (a :: v)) (f a)
theorem Y2 {p : List Value → Prop} (f : ∀ a0 a1 a2 a3 a4, p [a0, a1, a2, a3, a4]) : ∀ v : List Value, v.length = 5 → p v := Qm fun a => Os (p := fun v => p (a :: v)) (f a)
theorem gO {p : List Value → Prop} (f : ∀ a0 a1 a2 a3 a4 a5, p [a0, a1, a2, a3, a4, a5]) : ∀ v : List Value, v.length = 6 → p v := Qm fun a => Y2 (p := fun v => p (a :: v)) (f a)
theorem gN {p : List Value → Prop} (f : ∀ a0 a1 a2 a3 a4 a5 a6, p [a0, a1, a2, a3, a4, a5, a6]) : ∀ v : List Value, v.length = 7 → p v := Qm fun a => gO (p := fun v => p (a :: v)) (f a)
theorem Bo {K : Frag} {f : Addr} {nm : List Str} {bd : Sts} {k : Nat} (s : Stmt) (q : Str) (pm : Value) (c : Addr) (h1 : K.lookup f = some (Ao s q pm c) := by kernel_rfl) (h2 : Ao s q pm c = ⟨.type "function", none, .func (fnOf (Qt s) q (Qu s) (C8 nm bd) (Gl s) .none .none .none pm none (.ref c) .none), #[]⟩ := by kernel_rfl)
  (h3 : codeIn K (.ref c) q = true := by kernel_rfl) (hk : (Gl s).kind = .function := by kernel_rfl) (h4 : Se (Gl s) nm bd k = true := by kernel_rfl)
  (h5 : ∀ vals : List Value, vals.length = k → bindArgs (fnOf (Qt s) q (Qu s) (C8 nm bd) (Gl s) .none .none .none pm none (.ref c) .none) ⟨vals, []⟩ = pure ((nm.take k).zip vals)) : Bl K f nm bd k := by
 unfold Se at h4
 simp only [Bool.and_eq_true, Bool.not_eq_true'] at h4
 exact Dj _ _ _ _ _ _ _ (Dj _ _ _ _ _ _ _ ⟨h1.trans (congrArg some h2), h3, ⟨hk, h4.1, h4.2.1, h4.2.2.1, h4.2.2.2.1, h4.2.2.2.2.1, h4.2.2.2.2.2.1, h4.2.2.2.2.2.2.1, Nat.le_of_ble_eq_true h4.2.2.2.2.2.2.2⟩, h5⟩)
section
variable {h0 : Heap} {prog : Program} {w : World} {K : Frag} {mg mb : Str → Option Value} (G : Gd K h0 mg mb) {n : Nat}
include G in
theorem Zg {f : Addr} {nm : List Str} {bd : Sts} {k : Nat} {vs : List V} {σ : Aa} {Q : V → Aa → Prop} (H : Bl K f nm bd k) (hv : vs.length = k)
  (h : Di (Bs h0) (Am prog w K h0 n) bd (entry nm.length vs) σ (fun _ σ => Q .none σ) Q) : Am prog w K h0 (n + 1) (.ref f) vs σ Q := by
 (refine Dh H fun oc od osl name qual params scope zq0 => ?_; refine Dh zq0 fun dV kV doc pm an cdv ct zq1 => ?_; refine G1 zq1 fun h1 h2 zq2 h3 => ?_; refine Dy zq2 fun a1 a2 a3 a4 a5 a6 a7 zq3 => ?_; refine zA zq3 fun a8 a9 => ?_)
 exact bT G h1 h2 a1 a2 a3 a4 a5 a6 a7 h3 a8 a9 hv h
end
theorem Ui (P : Params) : Bl (KO P) 58 To Ue 1 :=
 Bo (st 4) "normal" (.str "gmp.limbs" 187) 57 (h5 := len1 fun a0 => by kernel_rfl)
theorem Uj (P : Params) : Bl (KO P) 65 Tp Uf 2 :=
 Bo (st 5) "nat_of" (.str "gmp.limbs" 187) 64 (h5 := len2 fun a0 a1 => by kernel_rfl)
theorem Re (P : Params) : Bl (KO P) 72 Qj Q9 2 :=
 Bo (st 6) "compare" (.str "gmp.limbs" 187) 71 (h5 := len2 fun a0 a1 => by kernel_rfl)
theorem cJ (P : Params) : Bl (KO P) 79 bI cG 3 :=
 Bo (st 7) "add" (.str "gmp.limbs" 187) 78 (h5 := Fn fun a0 a1 a2 => by kernel_rfl)
theorem cH (P : Params) : Bl (KO P) 86 bG cD 3 :=
 Bo (st 8) "sub" (.str "gmp.limbs" 187) 85 (h5 := Fn fun a0 a1 a2 => by kernel_rfl)
theorem Pc (P : Params) : Bl (KO P) 93 Oo O8 3 :=
 Bo (st 9) "add_limb" (.str "gmp.limbs" 187) 92 (h5 := Fn fun a0 a1 a2 => by kernel_rfl)
theorem K3 (P : Params) : Bl (KO P) 100 Ki Ky 3 :=
 Bo (st 10) "divrem_limb" (.str "gmp.limbs" 187) 99 (h5 := Fn fun a0 a1 a2 => by kernel_rfl)
theorem Lx (P : Params) : Bl (KO P) 107 Lh Ls 3 :=
 Bo (st 11) "shift_left" (.str "gmp.limbs" 187) 106 (h5 := Fn fun a0 a1 a2 => by kernel_rfl)
theorem K0 (P : Params) : Bl (KO P) 114 Kf Kv 3 :=
 Bo (st 12) "shift_right" (.str "gmp.limbs" 187) 113 (h5 := Fn fun a0 a1 a2 => by kernel_rfl)
theorem Zz (P : Params) : Bl (KO P) 121 Yx Zv 2 :=
 Bo (st 13) "bits" (.str "gmp.limbs" 187) 120 (h5 := len2 fun a0 a1 => by kernel_rfl)
theorem Ug (P : Params) : Bl (KO P) 135 Tm Uc 2 :=
 Bo (st 16) "signed" (.str "gmp.signed" 368) 134 (h5 := len2 fun a0 a1 => by kernel_rfl)
theorem Zx (P : Params) : Bl (KO P) 142 Yv Zt 2 :=
 Bo (st 17) "s_of" (.str "gmp.signed" 368) 141 (h5 := len2 fun a0 a1 => by kernel_rfl)
theorem Xb (P : Params) : Bl (KO P) 149 V7 W4 1 :=
 Bo (st 18) "s_neg" (.str "gmp.signed" 368) 148 (h5 := len1 fun a0 => by kernel_rfl)
theorem Xe (P : Params) : Bl (KO P) 156 Wa W7 1 :=
 Bo (st 19) "s_abs" (.str "gmp.signed" 368) 155 (h5 := len1 fun a0 => by kernel_rfl)
theorem Uh (P : Params) : Bl (KO P) 163 Tn Ud 1 :=
 Bo (st 20) "s_sign" (.str "gmp.signed" 368) 162 (h5 := len1 fun a0 => by kernel_rfl)
theorem Nu (P : Params) : Bl (KO P) 170 Mx Nl 2 :=
 Bo (st 21) "s_compare" (.str "gmp.signed" 368) 169 (h5 := len2 fun a0 a1 => by kernel_rfl)
theorem Xd (P : Params) : Bl (KO P) 177 V9 W6 3 :=
 Bo (st 22) "s_add" (.str "gmp.signed" 368) 176 (h5 := Fn fun a0 a1 a2 => by kernel_rfl)
theorem Xa (P : Params) : Bl (KO P) 184 V6 W3 3 :=
 Bo (st 23) "s_sub" (.str "gmp.signed" 368) 183 (h5 := Fn fun a0 a1 a2 => by kernel_rfl)
theorem Xc (P : Params) : Bl (KO P) 191 V8 W5 4 :=
 Bo (st 24) "s_mul" (.str "gmp.signed" 368) 190 (h5 := Os fun a0 a1 a2 a3 => by kernel_rfl)
theorem Zw (P : Params) : Bl (KO P) 198 Yu Zs 4 :=
 Bo (st 25) "tdiv" (.str "gmp.signed" 368) 197 (h5 := Os fun a0 a1 a2 a3 => by kernel_rfl)
theorem Zy (P : Params) : Bl (KO P) 205 Yw Zu 4 :=
 Bo (st 26) "fdiv" (.str "gmp.signed" 368) 204 (h5 := Os fun a0 a1 a2 a3 => by kernel_rfl)
theorem Rd (P : Params) : Bl (KO P) 212 Qi Q8 3 :=
 Bo (st 27) "s_shift" (.str "gmp.signed" 368) 211 (h5 := Fn fun a0 a1 a2 => by kernel_rfl)
theorem cI (P : Params) : Bl (KO P) 221 bH cE 4 :=
 Bo (st 30) "dot" (.str "gmp.lattice" 477) 220 (h5 := Os fun a0 a1 a2 a3 => by kernel_rfl)
theorem Pa (P : Params) : Bl (KO P) 226 Om O6 5 :=
 Bo (st 31) "row_less" (.str "gmp.lattice" 477) 225 (h5 := Y2 fun a0 a1 a2 a3 a4 => by kernel_rfl)
theorem Gs (P : Params) : Bl (KO P) 233 Gp Gr 4 :=
 Bo (st 32) "nearest_quotient" (.str "gmp.lattice" 477) 232 (h5 := Os fun a0 a1 a2 a3 => by kernel_rfl)
theorem Pd (P : Params) : Bl (KO P) 245 Op O9 7 :=
 Bo (me 0) "Lattice.__init__" (.str "gmp.lattice" 477) 244 (h5 := gN fun a0 a1 a2 a3 a4 a5 a6 => by kernel_rfl)
theorem Jh (P : Params) : Bl (KO P) 252 I7 Jd 3 :=
 Bo (me 1) "Lattice.product_of" (.str "gmp.lattice" 477) 251 (h5 := Fn fun a0 a1 a2 => by kernel_rfl)
theorem Rf (P : Params) : Bl (KO P) 259 Qk Ra 3 :=
 Bo (me 2) "Lattice.exact" (.str "gmp.lattice" 477) 258 (h5 := Fn fun a0 a1 a2 => by kernel_rfl)
theorem N1 (P : Params) : Bl (KO P) 266 M8 Nr 5 :=
 Bo (me 3) "Lattice.crossed" (.str "gmp.lattice" 477) 265 (h5 := Y2 fun a0 a1 a2 a3 a4 => by kernel_rfl)
theorem Ny (P : Params) : Bl (KO P) 273 Ak Au 2 :=
 Bo (me 4) "Lattice.take_in" (.str "gmp.lattice" 477) 272 (h5 := len2 fun a0 a1 => by kernel_rfl)
theorem Nz (P : Params) : Bl (KO P) 280 M6 Nq 3 :=
 Bo (me 5) "Lattice.shorten" (.str "gmp.lattice" 477) 279 (h5 := Fn fun a0 a1 a2 => by kernel_rfl)
theorem Ji (P : Params) : Bl (KO P) 287 I8 Je 2 :=
 Bo (me 6) "Lattice.is_upright" (.str "gmp.lattice" 477) 286 (h5 := len2 fun a0 a1 => by kernel_rfl)
theorem L2 (P : Params) : Bl (KO P) 294 Ll Lw 2 :=
 Bo (me 7) "Lattice.exchange" (.str "gmp.lattice" 477) 293 (h5 := len2 fun a0 a1 => by kernel_rfl)
theorem Xf (P : Params) : Bl (KO P) 301 Wb W8 1 :=
 Bo (me 8) "Lattice.run" (.str "gmp.lattice" 477) 300 (h5 := len1 fun a0 => by kernel_rfl)
theorem Ly (P : Params) : Bl (KO P) 315 Li Lu 3 :=
 Bo (st 35) "mul_school" (.str "gmp.school" 633) 314 (h5 := Fn fun a0 a1 a2 => by kernel_rfl)
theorem Jg (P : Params) : Bl (KO P) 322 I6 Jc 3 :=
 Bo (st 36) "divrem_small" (.str "gmp.school" 633) 321 (h5 := Fn fun a0 a1 a2 => by kernel_rfl)
theorem Jf (P : Params) : Bl (KO P) 329 I5 Jb 4 :=
 Bo (st 37) "guessed_limb" (.str "gmp.school" 633) 328 (h5 := Os fun a0 a1 a2 a3 => by kernel_rfl)
theorem Nt (P : Params) : Bl (KO P) 336 Mw Nk 5 :=
 Bo (st 38) "take_away" (.str "gmp.school" 633) 335 (h5 := Y2 fun a0 a1 a2 a3 a4 => by kernel_rfl)
theorem Pb (P : Params) : Bl (KO P) 343 On O7 4 :=
 Bo (st 39) "put_back" (.str "gmp.school" 633) 342 (h5 := Os fun a0 a1 a2 a3 => by kernel_rfl)
theorem K4 (P : Params) : Bl (KO P) 350 Kj Kz 3 :=
 Bo (st 40) "divide_rows" (.str "gmp.school" 633) 349 (h5 := Fn fun a0 a1 a2 => by kernel_rfl)
theorem Ip (P : Params) : Bl (KO P) 357 Ig Io 3 :=
 Bo (st 41) "divrem_school" (.str "gmp.school" 633) 356 (h5 := Fn fun a0 a1 a2 => by kernel_rfl)
theorem Nw (P : Params) : Bl (KO P) 364 M4 No 2 :=
 Bo (st 43) "_law_raked" (.str "law_sj0090_01" 732) 363 (h5 := len2 fun a0 a1 => by kernel_rfl)
theorem Lz (P : Params) : Bl (KO P) 371 Lj Lv 1 :=
 Bo (st 44) "_law_signed" (.str "law_sj0090_01" 732) 370 (h5 := len1 fun a0 => by kernel_rfl)
theorem Nx (P : Params) : Bl (KO P) 376 M5 Np 1 :=
 Bo (st 45) "_law_plain" (.str "law_sj0090_01" 732) 375 (h5 := len1 fun a0 => by kernel_rfl)
theorem Hw (P : Params) : Bl (KO P) 381 My Nm 1 :=
 Bo (st 46) "_law_worth" (.str "law_sj0090_01" 732) 380 (h5 := len1 fun a0 => by kernel_rfl)
theorem K2 (P : Params) : Bl (KO P) 386 Kh Kx 3 :=
 Bo (st 47) "_law_is_same" (.str "law_sj0090_01" 732) 385 (h5 := Fn fun a0 a1 a2 => by kernel_rfl)
theorem Nv (P : Params) : Bl (KO P) 391 Mz Nn 1 :=
 Bo (st 48) "_law_sizes" (.str "law_sj0090_01" 732) 390 (h5 := len1 fun a0 => by kernel_rfl)
theorem K1 (P : Params) : Bl (KO P) 398 Kg Kw 1 :=
 Bo (st 49) "_law_product" (.str "law_sj0090_01" 732) 397 (h5 := len1 fun a0 => by kernel_rfl)
theorem G6 {α β : Type} [BEq α] [LawfulBEq α] {P : α → β → Prop} : ∀ {l : List (α × β)} {x : α} {a : β}, l.lookup x = some a → (∀ y ∈ l, P y.1 y.2) → P x a
 | (y, b) :: l, x, a, h, hp => by
  rw [List.lookup_cons] at h
  cases hx : x == y with
  | true => rw [hx] at h; cases h; rw [beq_iff_eq.mp hx]; exact hp _ (.head _)
  | false => rw [hx] at h; exact G6 h fun z hz => hp z (.tail _ hz)
noncomputable def bR (K : Frag) (y : Str × Addr) : Bool := match nsIn K mainGlobals y.1 with
 | some (some (.ref a)) => Nat.beq a y.2
 | _ => false
theorem Zf {K : Frag} {y : Str × Addr} (h : bR K y = true) : nsIn K mainGlobals y.1 = some (some (.ref y.2)) := by
 unfold bR at h
 split at h
 ·rename_i e; rw [e, Nat.eq_of_beq_eq_true h]
 ·cases h
theorem bM (P : Params) : GT.all (bR (KO P)) = true := by kernel_rfl
theorem bL (P : Params) : ∀ y ∈ GT, nsIn (KO P) mainGlobals y.1 = some (some (.ref y.2)) := fun y hy => Zf (List.all_eq_true.mp (bM P) y hy)
theorem Y8 (P : Params) : ∀ y ∈ MT, findIn (KO P) (.ref LAT) y.1 = some (some (.ref y.2)) ∧ typeIn (KO P) (.ref y.2) = some (.type "function") := by
 intro y hy
 unfold MT at hy
 simp only [List.mem_cons, List.not_mem_nil, or_false] at hy
 rcases hy with rfl | rfl | rfl | rfl | rfl | rfl | rfl | rfl <;> exact ⟨by kernel_rfl, by kernel_rfl⟩
theorem kf (P : Params) : KF (KO P) where
 glo := fun x a h => G6 (P := fun x a => nsIn (KO P) mainGlobals x = some (some (.ref a))) h (bL P)
 bfs := fun b => by cases b <;> kernel_rfl
 rng := by kernel_rfl
 enu := by kernel_rfl
 zip := by kernel_rfl
 meth := fun x f h => G6 (P := fun x f => findIn (KO P) (.ref LAT) x = some (some (.ref f)) ∧ typeIn (KO P) (.ref f) = some (.type "function")) h (Y8 P)
 ga := by kernel_rfl
 gat := by kernel_rfl
 hd := by kernel_rfl
 fld := fun k hk => by
  match k, hk with
  | 0, _ | 1, _ | 2, _ | 3, _ | 4, _ | 5, _ | 6, _ | 7, _ => kernel_rfl
 setA := by kernel_rfl
 over := by kernel_rfl
theorem Y9 (P : Params) : makesIn (KO P) LAT = true := by kernel_rfl
theorem Za (P : Params) : keepIn (KO P) (.ref LAT) = true := by kernel_rfl
theorem bN (P : Params) : findIn (KO P) (.ref LAT) "__init__" = some (some (.ref 245)) := by kernel_rfl
theorem Zb (P : Params) : typeIn (KO P) (.ref 245) = some (.type "function") := by kernel_rfl
theorem Am.up {prog : Program} {w : World} {K : Frag} {h0 : Heap} {n m : Nat} {f : V} {vs : List V} {σ : Aa} {Q : V → Aa → Prop} (h : Am prog w K h0 n f vs σ Q) (hm : n ≤ m) : Am prog w K h0 m f vs σ Q := by
 refine A6 h fun a e k hc => ?_
 exact Ay a e k (fun A s vals R => hc A s vals ⟨by have := R.depth; exact ln 0x22223843fb10a03843fb20a02102 [A.depth, n, m] hm this, by have := R.units; exact ln 0x22c82f213884fb1642f80a013884fb2642f80a02102 [A.units, n, m] hm this, R.handled⟩)
noncomputable abbrev KK (w : World) : Frag := KO w.params
@[irreducible] noncomputable def CC (prog : Program) (w : World) (h0 : Heap) (n : Nat) : V → List V → Aa → (V → Aa → Prop) → Prop := Am prog w (KK w) h0 n
theorem H2 {prog : Program} {w : World} {h0 : Heap} {n : Nat} : CC prog w h0 n = Am prog w (KK w) h0 n := by unfold CC; rfl
theorem CC.up {prog : Program} {w : World} {h0 : Heap} {n m : Nat} {f : V} {vs : List V} {σ : Aa} {Q : V → Aa → Prop} (h : CC prog w h0 n f vs σ Q) (hm : n ≤ m) : CC prog w h0 m f vs σ Q := by
 rw [H2] at h ⊢; exact Am.up h hm
theorem enter {prog : Program} {w : World} {h0 : Heap} {mg mb : Str → Option Value} (G : Gd (KK w) h0 mg mb) {n : Nat} {f : Addr} {nm : List Str} {bd : Sts} {k : Nat} {vs : List V} {σ : Aa} {Q : V → Aa → Prop} (ρ : Loc) (H : Bl (KK w) f nm bd k) (hv : vs.length = k) (hρ : entry nm.length vs = ρ)
  (h : Di (Bs h0) (CC prog w h0 n) bd ρ σ (fun _ σ => Q .none σ) Q) : CC prog w h0 (n + 1) (.ref f) vs σ Q :=
 by rw [H2] at h ⊢; exact Zg G H hv (by rw [hρ]; exact h)
theorem join {P : Loc → Aa → Prop} {F : (Loc → Aa → Prop) → Prop} {N0 : Loc → Aa → Prop} (h : ∀ N, (∀ ρ σ, P ρ σ → N ρ σ) → F N) (hN : ∀ ρ σ, P ρ σ → N0 ρ σ) : F N0 := h N0 hN
theorem Hj {P : V → Aa → Prop} {F : (V → Aa → Prop) → Prop} {N0 : V → Aa → Prop} (h : ∀ N, (∀ v σ, P v σ → N v σ) → F N) (hN : ∀ v σ, P v σ → N0 v σ) : F N0 := h N0 hN
noncomputable abbrev iL (l : List Int) : Ed := .list (l.map .int)
noncomputable def gt (l : List Int) (j : Nat) : Int := l.getD j 0
noncomputable def val : List Int → Int
 | [] => 0
 | d :: r => d + 256 * val r
noncomputable def Lo (l : List Int) : Prop := ∀ d ∈ l, 0 ≤ d ∧ d < 256
noncomputable def Nrm (l : List Int) : Prop := Lo l ∧ (l = [] ∨ gt l (l.length - 1) ≠ 0)
theorem Dk {l : List Int} {j : Nat} (h : j < l.length) : l[j] = gt l j := by
 unfold gt; rw [List.getD_eq_getElem?_getD, List.getElem?_eq_getElem h]; rfl
theorem Bg {l : List Int} {j : Nat} (h : j < l.length) : l[j]? = some (gt l j) := by rw [List.getElem?_eq_getElem h, Dk]
theorem B7 {l : List Int} (h : Lo l) (j : Nat) : 0 ≤ gt l j ∧ gt l j < 256 := by
 rcases Nat.lt_or_ge j l.length with q | q
 ·rw [← Dk q]; exact h _ (List.getElem_mem _)
 ·unfold gt; rw [List.getD_eq_getElem?_getD, List.getElem?_eq_none q]; exact ⟨by decide, by decide⟩
theorem Fv {l m : List Int} {j : Nat} (h : j < l.length) : gt (l ++ m) j = gt l j := by
 unfold gt; rw [List.getD_eq_getElem?_getD, List.getD_eq_getElem?_getD, List.getElem?_append_left h]
theorem Cu {l m : List Int} {j : Nat} (h : l.length ≤ j) : gt (l ++ m) j = gt m (j - l.length) := by
 unfold gt; rw [List.getD_eq_getElem?_getD, List.getD_eq_getElem?_getD, List.getElem?_append_right h]
theorem Sd {l : List Int} {n j : Nat} (h : j < n) : gt (l.take n) j = gt l j := by
 unfold gt; rw [List.getD_eq_getElem?_getD, List.getD_eq_getElem?_getD, List.getElem?_take, if_pos h]
theorem Ze {l : List Int} {n j : Nat} : gt (l.drop n) j = gt l (n + j) := by
 unfold gt; rw [List.getD_eq_getElem?_getD, List.getD_eq_getElem?_getD, List.getElem?_drop]
theorem Iy {l : List Int} {j : Nat} {v : Int} (h : j < l.length) : gt (l.set j v) j = v := by
 unfold gt; rw [List.getD_eq_getElem?_getD, List.getElem?_set_self h]; rfl
theorem Cq {l : List Int} {i j : Nat} {v : Int} (h : i ≠ j) : gt (l.set i v) j = gt l j := by
 unfold gt; rw [List.getD_eq_getElem?_getD, List.getD_eq_getElem?_getD, List.getElem?_set_ne h]
theorem Kk {l : List Int} {j : Nat} (h : l.length ≤ j) : gt l j = 0 := by
 unfold gt; rw [List.getD_eq_getElem?_getD, List.getElem?_eq_none h]; rfl
theorem Wi {n j : Nat} {v : Int} (h : j < n) : gt (List.replicate n v) j = v := by
 unfold gt; rw [List.getD_eq_getElem?_getD, List.getElem?_replicate, if_pos h]; rfl
theorem E0 (l m : List Int) : val (l ++ m) = val l + 256 ^ l.length * val m := by
 induction l with
 | nil => simp [val]
 | cons d r ih =>
  rw [List.cons_append, val, val, ih, List.length_cons, Int.pow_succ]
  grind
theorem Dd {l : List Int} {j : Nat} (h : j < l.length) : val (l.take (j + 1)) = val (l.take j) + 256 ^ j * gt l j := by
 rw [List.take_succ_eq_append_getElem h, E0, List.length_take, Nat.min_eq_left (Nat.le_of_lt h), Dk]
 simp [val]
theorem Bi {l : List Int} {j : Nat} (h : j < l.length) : val (l.drop j) = gt l j + 256 * val (l.drop (j + 1)) := by
 rw [List.drop_eq_getElem_cons h, val, Dk]
theorem A8 (l : List Int) (j : Nat) (h : j ≤ l.length) : val l = val (l.take j) + 256 ^ j * val (l.drop j) := by
 have := E0 (l.take j) (l.drop j)
 rwa [List.take_append_drop, List.length_take, Nat.min_eq_left h] at this
theorem Ez {l : List Int} {j : Nat} {v : Int} (h : j < l.length) : val (l.set j v) = val l + 256 ^ j * (v - gt l j) := by
 induction l generalizing j with
 | nil => simp at h
 | cons d r ih =>
  cases j with
  | zero => simp [val, gt]; exact lz 0x2220c11003f82aa11003f80a80 [v, val r, d]
  | succ j =>
   have := ih (j := j) (by simpa using h)
   rw [List.set_cons_succ, val, val, this, Int.pow_succ]
   have : gt (d :: r) (j + 1) = gt r j := rfl
   rw [this]; grind
theorem Dt (n : Nat) : val (List.replicate n 0) = 0 := by
 induction n with
 | zero => rfl
 | succ n ih => rw [List.replicate_succ, val, ih]; rfl
theorem Lo.nil : Lo [] := fun _ h => nomatch h
theorem Lo.cons {d : Int} {l : List Int} (h : Lo (d :: l)) : (0 ≤ d ∧ d < 256) ∧ Lo l := ⟨h d (.head _), fun x hx => h x (.tail _ hx)⟩
theorem Lo.append {l m : List Int} (h : Lo l) (h' : Lo m) : Lo (l ++ m) := fun d hd => by
 rcases List.mem_append.mp hd with q | q
 ·exact h d q
 ·exact h' d q
theorem Lo.one {d : Int} (h : 0 ≤ d) (h' : d < 256) : Lo [d] := fun x hx => by rw [List.mem_singleton.mp hx]; exact ⟨h, h'⟩
theorem Lo.take {l : List Int} (h : Lo l) (n : Nat) : Lo (l.take n) := fun d hd => h d (List.mem_of_mem_take hd)
theorem Lo.drop {l : List Int} (h : Lo l) (n : Nat) : Lo (l.drop n) := fun d hd => h d (List.mem_of_mem_drop hd)
theorem Lo.set {l : List Int} (h : Lo l) {j : Nat} {v : Int} (h1 : 0 ≤ v) (h2 : v < 256) : Lo (l.set j v) := fun d hd => by
 rcases List.mem_or_eq_of_mem_set hd with q | q
 ·exact h d q
 ·subst q; exact ⟨h1, h2⟩
theorem Lo.rep {n : Nat} : Lo (List.replicate n 0) := fun d hd => by rw [List.eq_of_mem_replicate hd]; decide
theorem Aw (n : Nat) : (0 : Int) < 256 ^ n := Int.pow_pos (by decide)
theorem Ap {l : List Int} (h : Lo l) : 0 ≤ val l := by
 induction l with
 | nil => exact Int.le_refl _
 | cons d r ih => have := ih h.cons.2; have := h.cons.1; rw [val]; exact lz 0x222003f211003f80a0b600b610b62 [d, val r] ‹_› this.1
theorem C7 {l : List Int} (h : Lo l) : val l < 256 ^ l.length := by
 induction l with
 | nil => decide
 | cons d r ih => have := ih h.cons.2; have := h.cons.1; rw [val, List.length_cons, Int.pow_succ]; exact lz 0x222003f221003f911003f80a71003fb072172 [d, val r, 256 ^ r.length] ‹_› this.2
theorem Nrm.nil : Nrm [] := ⟨Lo.nil, .inl rfl⟩
theorem Nrm.ge {l : List Int} (h : Nrm l) (hl : l ≠ []) : 256 ^ (l.length - 1) ≤ val l := by
 have hp : 0 < l.length := List.length_pos_iff.mpr hl
 have h1 := A8 l (l.length - 1) (o33 hp)
 have h2 := Bi (l := l) (j := l.length - 1) (o24 hp)
 rw [show l.length - 1 + 1 = l.length by exact o75 hp, List.drop_length] at h2
 simp only [val] at h2
 have h3 := Ap (h.1.take (l.length - 1))
 have h4 := B7 h.1 (l.length - 1)
 have h5 : gt l (l.length - 1) ≠ 0 := h.2.resolve_left hl
 have h6 : (1 : Int) ≤ val (l.drop (l.length - 1)) := by exact lz 0x221201b610b70b1003f81a082 [val (List.drop (l.length - 1) l), gt l (l.length - 1)] h2 (Int.lt_iff_le_and_ne.mpr ⟨lz 0x22200b600b61 [gt l (l.length - 1)] h4.1, (Ne.symm h5)⟩)
 have := Int.mul_le_mul_of_nonneg_left h6 (Int.le_of_lt (Aw (l.length - 1)))
 exact lz 0x222121063019620b632a183 [256 ^ (l.length - 1), val l, val (List.take (l.length - 1) l), 256 ^ (l.length - 1) * val (List.drop (l.length - 1) l)] h1 h3 this
theorem Nrm.of_ge {l : List Int} (h : Lo l) (hv : l ≠ [] → 256 ^ (l.length - 1) ≤ val l) : Nrm l := by
 refine ⟨h, ?_⟩
 by_cases hl : l = []
 ·exact .inl hl
 ·right
  intro h0
  have hp : 0 < l.length := List.length_pos_iff.mpr hl
  have h1 := A8 l (l.length - 1) (o33 hp)
  have h2 := Bi (l := l) (j := l.length - 1) (o24 hp)
  rw [show l.length - 1 + 1 = l.length by exact o75 hp, List.drop_length, h0] at h2
  simp only [val] at h2
  rw [h2] at h1
  have h3 := C7 (h.take (l.length - 1))
  rw [List.length_take, Nat.min_eq_left (o33 hp)] at h3
  have := hv hl
  lia
theorem Nrm.pos {l : List Int} (h : Nrm l) (hl : l ≠ []) : 0 < val l := Int.lt_of_lt_of_le (Aw _) (h.ge hl)
theorem Ej {a b : Nat} (h : a ≤ b) : (256 : Int) ^ a ≤ 256 ^ b := by
 (refine zE (Nat.exists_eq_add_of_le h) fun c zq0 => ?_; subst zq0)
 rw [Int.pow_add]
 have := Aw c
 have := Int.mul_le_mul_of_nonneg_left (show (1 : Int) ≤ 256 ^ c by assumption) (Int.le_of_lt (Aw a))
 exact lz 0x222106101961 [256 ^ a, 256 ^ a * 256 ^ c] this
theorem Nrm.len_le {l : List Int} (h : Nrm l) {n : Nat} (hv : val l < 256 ^ n) : l.length ≤ n := by
 by_cases hl : l = []
 ·subst hl; exact Nat.zero_le _
 ·rcases Nat.lt_or_ge n l.length with q | q
  ·have := h.ge hl
   have := Ej (show n ≤ l.length - 1 by exact ln 0x212210021b1a22012 [n, l.length - 1, l.length] q (lsc l.length 1 (ln 0x22201b00111 [l.length, n] q)))
   exact lq 0x222201002160261073 [l.length, n] [val l, 256 ^ n, 256 ^ (l.length - 1)] hv ‹_› this
  ·exact q
noncomputable def IsN (σ : Aa) (a : Addr) (z : Int) : Prop := ∃ l, σ a = some (iL l) ∧ Nrm l ∧ val l = z
theorem IsN.ext {σ σ' : Aa} {a : Addr} {z : Int} (h : IsN σ a z) (e : Ext σ σ') : IsN σ' a z := by
 refine zEA h fun l h1 h2 => ?_; exact iEA l (e _ _ h1) h2
theorem Ext.refl {σ : Aa} : Ext σ σ := fun _ _ h => h
theorem Ext.trans {σ σ' σ'' : Aa} (h : Ext σ σ') (h' : Ext σ' σ'') : Ext σ σ'' := fun a o e => h' a o (h a o e)
theorem Ext.but {σ0 σ σ' : Aa} {x : Addr} (h : Ext σ0 σ) (h' : Ag x σ σ') (hx : σ0 x = none) : Ext σ0 σ' := fun a o e => h' a o (fun q => by rw [q, hx] at e; cases e) (h a o e)
theorem Ext.none {σ0 σ : Aa} {x : Addr} (h : Ext σ0 σ) (hx : σ x = none) : σ0 x = .none := by
 cases e : σ0 x with
 | none => rfl
 | some o => rw [h x o e] at hx; cases hx
theorem ix {σ : Aa} {x : Addr} {l : List Int} {n : Int} {Q : V → Prop} (h : σ x = some (iL l)) (j : Nat) (hn : n = (j : Int)) (hj : j < l.length) (q : Q (.int (gt l j))) :
  ∃ xs j v, ((σ x = some (.list xs) ∨ σ x = some (.tup xs)) ∧ Ib n xs.length j ∧ xs[j]? = some v) ∧ Q v :=
 (Ix _ j _ ⟨.inl h, .inl hn, by rw [List.getElem?_map, Bg hj]; rfl⟩ q)
theorem ixL {σ : Aa} {x : Addr} {l : List V} {n : Int} {Q : V → Prop} (h : σ x = some (.list l)) (j : Nat) (v : V) (hn : n = (j : Int)) (hj : l[j]? = some v) (q : Q v) :
  ∃ xs j v, ((σ x = some (.list xs) ∨ σ x = some (.tup xs)) ∧ Ib n xs.length j ∧ xs[j]? = some v) ∧ Q v :=
 (Ix _ j _ ⟨.inl h, .inl hn, hj⟩ q)
theorem ixT {σ : Aa} {x : Addr} {l : List V} {n : Int} {Q : V → Prop} (h : σ x = some (.tup l)) (j : Nat) (v : V) (hn : n = (j : Int)) (hj : l[j]? = some v) (q : Q v) :
  ∃ xs j v, ((σ x = some (.list xs) ∨ σ x = some (.tup xs)) ∧ Ib n xs.length j ∧ xs[j]? = some v) ∧ Q v :=
 (Ix _ j _ ⟨.inr h, .inl hn, hj⟩ q)
theorem Nj {a : Int} {n : Nat} (h : a.natAbs < 2 ^ n) : bitsI a ≤ n := by
 unfold bitsI Builtin.Int.intBits
 split
 ·exact Nat.zero_le _
 ·rename_i q
  have q' : a.natAbs ≠ 0 := fun e => q (by simpa using e)
  exact (Nat.log2_lt q').mpr h
theorem Ce {a : Int} (h1 : -(2 ^ 63) < a) (h2 : a < 2 ^ 63) : bitsI a ≤ 64 := Nj (by
 have : (2 : Nat) ^ 64 = 18446744073709551616 := rfl
 omega)
theorem B4 {a b : Int} (h1 : -(2 ^ 63) < a) (h2 : a < 2 ^ 63) : Hh a b := .inl (Ce h1 h2)
theorem C1 {a : Int} (h : 0 ≤ a) : Builtin.bitAnd a 255 = a % 256 := by
 unfold Builtin.bitAnd
 rw [decide_eq_true h]
 show ((a.toNat &&& 255 : Nat) : Int) = a % 256
 rw [show (255 : Nat) = 2 ^ 8 - 1 from rfl, Nat.and_two_pow_sub_one_eq_mod]
 lia
theorem P8 {a : Int} : a.fdiv (2 ^ (Int.toNat 8)) = a / 256 := by
 rw [Int.fdiv_eq_ediv_of_nonneg _ (by decide)]; rfl
section
variable {h0 : Heap} {prog : Program} {w : World} {mg mb : Str → Option Value} (G : Gd (KK w) h0 mg mb) {n : Nat}
theorem bU {l : List Int} {e : Nat} (he : e ≤ l.length) : cut (l.map V.int) none (some (e : Int)) = (l.take e).map .int := by
 have e1 : Eh (some (e : Int)) (l.map V.int).length = e := by
  unfold Eh; dsimp only; rw [if_neg (o34), List.length_map, Int.toNat_natCast]; exact dN he
 rw [cut, e1]
 simp [Fk]
theorem Sl {l : List V} : cut l none none = l := by
 rw [cut]; simp [Fk, Eh]
theorem Sp {l : List Int} {e : Nat} (he : e ≤ l.length) (hz : ∀ i, e ≤ i → i < l.length → gt l i = 0) : val (l.take e) = val l := by
 have : val (l.drop e) = 0 := by
  have h : l.drop e = List.replicate (l.length - e) 0 := by
   apply List.ext_getElem (by simp)
   intro i h1 h2
   rw [List.getElem_drop, Dk, List.getElem_replicate]
   rw [List.length_drop] at h1
   exact hz _ (ln 0x2210a000 [e, i]) (ln 0x2222210a1203a23112 [e, i, l.length, l.length - e] h1 (lsc l.length e (ln 0x2221001001 [e, l.length] he)))
  rw [h, Dt]
 have := A8 l e he
 simp_all
include G in
theorem Eu {a : Addr} {l : List Int} {σ : Aa} {Q : V → Aa → Prop} (h : σ a = some (iL l)) (hl : Lo l)
  (hQ : ∀ r σ', Bs h0 r → σ r = none → Ext σ σ' → IsN σ' r (val l) → Q (.ref r) σ') : CC prog w h0 (n + 1) (.ref 58) [.ref a] σ Q := by
 refine enter G [some (.ref a), none] (Ui _) rfl rfl ?_
 refine iEA _ h ?_
 conv => whnf
 refine Ba (fun n ρ τ => τ = σ ∧ ρ = [some (.ref a), some (.int n)] ∧ n ≤ l.length ∧ (∀ i, n ≤ i → i < l.length → gt l i = 0)) (fun ρ τ => ∃ n : Nat, τ = σ ∧ ρ = [some (.ref a), some (.int n)] ∧ n ≤ l.length ∧ (∀ i, n ≤ i → i < l.length → gt l i = 0) ∧ (n = 0 ∨ gt l (n - 1) ≠ 0)) (Ar l.length rfl (by simp) (by simp) (by intros; lia)) ?_ ?_
 ·(refine fun n _ _ => Xl fun zq0 zq1 hn hz => ?_; subst zq0; subst zq1)
  refine And.intro (fun e => ?_) (fun e => ?_)
  ·have e := of_decide_eq_true e
   obtain ⟨k, rfl⟩ : ∃ k, n = k + 1 := ⟨n - 1, ln 0x22121b1a0201b1a21 [n, n - 1] (lsc n 1 (ln 0x22201b00e0b71 [n] e))⟩
   refine ix h k (ln 0x220e1b1b0aec80 [k]) ‹_› ?_
   refine And.intro (fun e2 => ?_) (fun e2 => ?_)
   ·skip
    refine Fb k (o53) rfl (by simp <;> omega) (o76 hn) (fun i h1 h2 => ?_)
    rcases Nat.lt_or_eq_of_le h1 with h1 | h1
    ·exact hz i h1 h2
    ·subst h1; exact of_decide_eq_true e2
   ·exact Fb (k + 1) rfl rfl hn hz (.inr (of_decide_eq_false e2))
  ·have e := of_decide_eq_false e
   exact ⟨nofun, fun _ => Fb n rfl rfl hn hz (.inl (o77 e))⟩
 ·(refine fun _ _ => Pi fun e zq0 zq1 he hz hx => ?_; subst zq0; subst zq1)
  refine iEA _ h ?_
  intro r σ' h1 h2 h3 h4
  rw [bU he] at h4
  refine hQ r σ' h1 h2 h3 (Ay _ h4 ⟨hl.take e, ?_⟩ (Sp he hz))
  rcases hx with hx | hx
  ·left; subst hx; rfl
  ·rcases Nat.eq_zero_or_pos e with z | z
   ·left; subst z; rfl
   ·right
    rw [List.length_take, Nat.min_eq_left he, Sd (by exact ln 0x22210111b0a21 [e - 1, e] (lsc e 1 (ln 0x22201b000b11 [e] z)))]
    exact hx
end
@[irreducible] noncomputable def ML : Nat := 8388600
theorem Ch : ML = 8388600 := by unfold ML; rfl
noncomputable def Dv (x y : Int) : Int := if x < y then -1 else if x = y then 0 else 1
section
variable {h0 : Heap} {prog : Program} {w : World} {mg mb : Str → Option Value} (G : Gd (KK w) h0 mg mb) {n : Nat}
theorem Bx {a b : Int} {k : Nat} {it : List V} (h : (J1 a b)[k]? = some it) : it = [.int (a + k)] ∧ a + k < b := by
 have hlt : k < (b - a).toNat := by
  rcases Nat.lt_or_ge k (b - a).toNat with q | q
  ·exact q
  ·unfold J1 at h; rw [List.getElem?_eq_none (by simpa using q)] at h; cases h
 unfold J1 at h
 rw [List.getElem?_map, List.getElem?_range hlt] at h
 cases h
 exact ⟨rfl, by omega⟩
theorem Ff {a b : Int} {k : Nat} {it : List V} (h : (Fx a b)[k]? = some it) : it = [.int (a - k)] ∧ b < a - k := by
 have hlt : k < (a - b).toNat := by
  rcases Nat.lt_or_ge k (a - b).toNat with q | q
  ·exact q
  ·unfold Fx at h; rw [List.getElem?_eq_none (by simpa using q)] at h; cases h
 unfold Fx at h
 rw [List.getElem?_map, List.getElem?_range hlt] at h
 cases h
 exact ⟨rfl, by omega⟩
theorem Bp {a b : Int} : (J1 a b).length = (b - a).toNat := by unfold J1; simp
theorem Fe {a b : Int} : (Fx a b).length = (a - b).toNat := by unfold Fx; simp
theorem E5 {l m : List Int} (h : Nrm l) (h' : Nrm m) (hl : l.length < m.length) : val l < val m := by
 have h1 := C7 h.1
 have h2 := h'.ge (fun e => by subst e; simp at hl)
 have := Ej (show l.length ≤ m.length - 1 by exact ln 0x212210021b1a22012 [l.length, m.length - 1, m.length] hl (lsc m.length 1 (ln 0x22201b00111 [m.length, l.length] hl)))
 exact lz 0x222221073261362073 [val l, val m, 256 ^ l.length, 256 ^ (m.length - 1)] h1 h2 this
theorem I0 {l m : List Int} (h : Lo l) (h' : Lo m) {j : Nat} (e : l.length = m.length) (hj : j < l.length) (hd : val (l.drop (j + 1)) = val (m.drop (j + 1))) (hg : gt l j < gt m j) : val l < val m := by
 have a1 := A8 l j (ln 0x2221001011 [j, l.length] hj)
 have a2 := A8 m j (ln 0x22221002011222 [j, m.length, l.length] e hj)
 have b1 := Bi hj
 have b2 := Bi (l := m) (j := j) (o81 e hj)
 have c1 := C7 (h.take j)
 have c2 := Ap (h'.take j)
 rw [List.length_take, Nat.min_eq_left (by exact ln 0x2221001011 [j, l.length] hj)] at c1
 have : val (l.drop j) + 1 ≤ val (m.drop j) := by exact lz 0x21222003f211b0a631003f85a1821003f84a085473284 [val (List.drop j l), val (List.drop j m), val (List.drop (j + 1) l), val (List.drop (j + 1) m), gt l j, gt m j] hd hg b1 b2
 have := Int.mul_le_mul_of_nonneg_left this (Int.le_of_lt (Aw j))
 rw [Int.mul_add] at this
 exact lz 0x222212210756193a640b662754a1832a085 [val l, val m, val (List.take j l), 256 ^ j * val (List.drop j l), val (List.take j m), 256 ^ j * val (List.drop j m), 256 ^ j] a1 a2 c1 c2 this
include G in
theorem Ev {a b : Addr} {x y : Int} {σ : Aa} {Q : V → Aa → Prop} (ha : IsN σ a x) (hb : IsN σ b y) (hx : x < 256 ^ ML) (hy : y < 256 ^ ML)
  (hQ : Q (.int (Dv x y)) σ) : CC prog w h0 (n + 1) (.ref 72) [.ref a, .ref b] σ Q := by
 (refine A6 ha fun l h1 n1 zq0 => ?_; subst zq0)
 (refine A6 hb fun m h2 n2 zq0 => ?_; subst zq0)
 have l1 := n1.len_le hx
 have l2 := n2.len_le hy
 refine enter G [some (.ref a), some (.ref b), none] (Re _) rfl rfl ?_
 refine iEA _ h1 ?_
 refine iEA _ h2 ?_
 conv => whnf
 simp only [List.length_map]
 refine ⟨fun e => ?_, fun e => ?_⟩
 ·have e := of_decide_eq_true e
  refine iEA _ h1 ?_
  refine iEA _ h2 ?_
  conv => whnf
  simp only [List.length_map]
  refine ⟨fun e2 => ?_, fun e2 => ?_⟩
  ·have e2 := of_decide_eq_true e2
   have := E5 n1 n2 (ln 0x2221011e0e71 [l.length, m.length] e2)
   unfold Dv at hQ; rw [if_pos this] at hQ; exact hQ
  ·have e2 := of_decide_eq_false e2
   have := E5 n2 n1 (ln 0x2221011e0e71 [m.length, l.length] (Int.lt_iff_le_and_ne.mpr ⟨ln 0x2221e0e60e1ea1 [m.length, l.length] e2, (Ne.symm e)⟩))
   unfold Dv at hQ; rw [if_neg (by exact lz 0x22210a0171 [val l, val m] this), if_neg (by exact lz 0x22210b0171 [val l, val m] this)] at hQ; exact hQ
 ·have e := of_decide_eq_false e
  have e : l.length = m.length := by exact ln 0x12221021e0e81 [l.length, m.length] (Classical.not_not.mp e)
  refine iEA _ h1 ?_
  conv => whnf
  simp only [List.length_map]
  refine ⟨⟨by have := Ch; unfold small; lia, by unfold small; lia, by first | rfl | trivial⟩, ?_⟩
  refine Ar (fun k ρ τ => τ = σ ∧ (∃ u, ρ = [some (.ref a), some (.ref b), u]) ∧ k ≤ l.length ∧ val (l.drop (l.length - k)) = val (m.drop (l.length - k))) ⟨rfl, ⟨_, rfl⟩, Nat.zero_le _, by rw [Nat.sub_zero, List.drop_length, e, List.drop_length]⟩ (fun _ _ _ _ => trivial) ?_ ?_
  ·(refine fun k _ _ it => Xl fun zq0 zq1 hk hv => ?_; subst zq0; refine zE zq1 fun u zq2 => ?_; subst zq2; refine fun hit => ?_)
   (refine zA (Ff hit) fun zq0 hb => ?_; subst zq0)
   refine ix h1 (l.length - 1 - k) (o55 ‹_› hb) (o56 ‹_› hb) ?_
   refine ix h2 (l.length - 1 - k) (o55 ‹_› hb) (o57 ‹_› hb) ?_
   conv => whnf
   rw [show l.length - k = l.length - 1 - k + 1 by (exact ln 0x221211221b1a0231b4a2421a2320a23 [l.length - k, l.length - 1 - k, k, l.length, l.length - 1] (lsc l.length k (ln 0x2221000e1b1ecc1bd71 [k, l.length] hb)) (lsc (l.length - 1) k (ln 0x22121000e1b2ecc1bd721b1a22 [k, l.length - 1, l.length] (lsc l.length 1 (ln 0x22201b01e1b0ecc1bd71 [l.length, k] hb)) hb)) (lsc l.length 1 (ln 0x22201b01e1b0ecc1bd71 [l.length, k] hb)))] at hv
   refine ⟨fun e1 => ?_, fun e1 => ?_⟩
   ·have e1 := of_decide_eq_true e1
    refine ix h1 (l.length - 1 - k) (o55 ‹_› hb) (o56 ‹_› hb) ?_
    refine ix h2 (l.length - 1 - k) (o55 ‹_› hb) (o57 ‹_› hb) ?_
    refine And.intro (fun e2 => ?_) (fun e2 => ?_)
    ·have e2 := of_decide_eq_true e2
     have := I0 n1.1 n2.1 e (o56 ‹_› hb) hv e2
     unfold Dv at hQ; rw [if_pos this] at hQ; exact hQ
    ·have e2 := of_decide_eq_false e2
     have := I0 n2.1 n1.1 e.symm (o57 ‹_› hb) hv.symm (lz 0x2221071071 [gt m (l.length - 1 - k), gt l (l.length - 1 - k)] (Int.lt_iff_le_and_ne.mpr ⟨lz 0x22210601a1 [gt m (l.length - 1 - k), gt l (l.length - 1 - k)] e2, (Ne.symm e1)⟩))
     unfold Dv at hQ; rw [if_neg (by exact lz 0x22210a0171 [val l, val m] this), if_neg (by exact lz 0x22210b0171 [val l, val m] this)] at hQ; exact hQ
   ·have e1 := of_decide_eq_false e1
    refine And.intro (rfl) (And.intro (⟨_, rfl⟩) (And.intro (ln 0x22211b0a00e1b1ecc1bd71 [k, l.length] hb) (?_)))
    rw [show l.length - (k + 1) = l.length - 1 - k by exact ln 0x2212112210231b4a2421a231b2a0a23 [l.length - (k + 1), l.length - 1 - k, k, l.length, l.length - 1] (lsc l.length (k + 1) (ln 0x22211b0a00e1b1ecc1bd71 [k, l.length] hb)) (lsc (l.length - 1) k (ln 0x22121000e1b2ecc1bd721b1a22 [k, l.length - 1, l.length] (lsc l.length 1 (ln 0x22201b01e1b0ecc1bd71 [l.length, k] hb)) hb)) (lsc l.length 1 (ln 0x22201b01e1b0ecc1bd71 [l.length, k] hb)), Bi (o56 ‹_› hb), Bi (l := m) (o57 ‹_› hb), hv]
    exact lz 0x122211003f82a11003f80a82081 [gt l (l.length - 1 - k), val (List.drop (l.length - 1 - k + 1) m), gt m (l.length - 1 - k)] (Classical.not_not.mp e1)
  ·(refine fun _ _ => Xl fun zq0 zq1 hk hv => ?_; subst zq0; refine zE zq1 fun u zq2 => ?_; subst zq2)
   have hk' := hv
   rw [Fe] at hv
   rw [show l.length - ((l.length : Int) - 1 - -1).toNat = 0 by (exact fO ‹_›)] at hv
   simp only [List.drop_zero] at hv
   unfold Dv at hQ
   rw [if_neg (by exact lz 0x21210a1081 [val l, val m] hv), if_pos hv] at hQ
   exact hQ
end
theorem U0 {B : Addr → Prop} {C : V → List V → Aa → (V → Aa → Prop) → Prop} {s : St} {r : Sts} {ρ : Loc} {σ : Aa} {N : Loc → Aa → Prop} {R : V → Aa → Prop} (h : wpS B C s ρ σ (fun ρ σ => Di B C r ρ σ N R) R) : Di B C (.cons s r) ρ σ N R := h
section
variable {h0 : Heap} {prog : Program} {w : World} {mg mb : Str → Option Value} (G : Gd (KK w) h0 mg mb) {n : Nat}
theorem Lo.snoc {L : List Int} {d : Int} (h : Lo L) (h1 : 0 ≤ d) (h2 : d < 256) : Lo (L ++ [d]) := h.append (Lo.one h1 h2)
theorem B9 (L : List Int) (d : Int) : val (L ++ [d]) = val L + 256 ^ L.length * d := by rw [E0]; simp [val]
theorem Cs (k : Nat) : (256 : Int) ^ (k + 1) = 256 ^ k * 256 := Int.pow_succ ..
theorem By {l : List Int} {k : Nat} (h : l.length ≤ k) : l.take k = l := List.take_of_length_le h
theorem Ck (L : List Int) (d : Int) : L.map V.int ++ [.int d] = (L ++ [d]).map .int := by simp
include G in
theorem eI {a b : Addr} {x y : Int} {σ : Aa} {Q : V → Aa → Prop} (ha : IsN σ a x) (hb : IsN σ b y) (hx : x < 256 ^ ML) (hy : y < 256 ^ ML)
  (hQ : ∀ r σ', Bs h0 r → σ r = none → Ext σ σ' → IsN σ' r (x + y) → Q (.ref r) σ') : CC prog w h0 (n + 1) (.ref 79) [.ref a, .ref b, .int 8] σ Q := by
 have hML := Ch
 refine enter G [some (.ref a), some (.ref b), some (.int 8), none, none, none, none] (cJ _) rfl rfl ?_
 refine U0 (join (P := (fun ρ τ => σ = τ ∧ ∃ a b l m, ρ = [some (.ref a), some (.ref b), some (.int 8), none, none, none, none] ∧ σ a = some (iL l) ∧ σ b = some (iL m) ∧ Nrm l ∧ Nrm m ∧ l.length ≤ ML ∧ m.length ≤ l.length ∧ val l + val m = x + y)) (F := fun N => wpS _ _ _ _ _ N _) ?_ ?_)
 ·intro N hN
  (refine A6 ha fun l h1 n1 zq0 => ?_; subst zq0)
  (refine A6 hb fun m h2 n2 zq0 => ?_; subst zq0)
  have l1 := n1.len_le hx
  have l2 := n2.len_le hy
  refine iEA _ h1 ?_
  refine iEA _ h2 ?_
  conv => whnf
  simp only [List.length_map]
  refine ⟨fun e => ?_, fun e => ?_⟩
  ·have e := of_decide_eq_true e
   exact hN _ _ ⟨rfl, B5 b a m l rfl h2 h1 n2 n1 ⟨l2, ln 0x2221001e0e71 [l.length, m.length] e, lz 0x2201a10a80 [val m, val l]⟩⟩
  ·have e := of_decide_eq_false e
   exact hN _ _ ⟨rfl, B5 a b l m rfl h1 h2 n1 n2 ⟨l1, ln 0x2221000e1ea1 [m.length, l.length] e, rfl⟩⟩
 ·rintro _ _ ⟨rfl, a, b, l, m, rfl, h1, h2, n1, n2, l1, l2, hv⟩
  conv => whnf
  intro f τ hf1 hf2 hf3 hf4
  refine And.intro (⟨by decide, by decide⟩) (?_)
  refine iEA _ (hf3 _ _ h2) ?_
  conv => whnf
  simp only [List.length_map]
  refine ⟨by unfold small; lia, ?_⟩
  refine Ar (fun k ρ υ => ∃ c L u, ρ = [some (.ref a), some (.ref b), some (.int 8), some (.ref f), some (.int c), some (.int 255), u] ∧ Ext σ υ ∧ υ f = some (iL L) ∧ L.length = k ∧ k ≤ m.length ∧ Lo L ∧ 0 ≤ c ∧ c ≤ 1 ∧ val L + 256 ^ k * c = val (l.take k) + val (m.take k)) (Bf 0 ([]) none rfl hf3 hf4 rfl (Nat.zero_le _) Lo.nil (by decide) (by decide) (by simp [val])) (fun _ _ _ _ => trivial) ?_ ?_
  ·(refine fun k _ υ it => Bm fun c L u zq0 he hL zq1 zq2 => ?_; subst zq0; subst zq1; refine Dz zq2 fun hk lo c0 c1 hv => ?_; refine fun hit => ?_)
   (refine zA (Bx hit) fun zq0 hb => ?_; subst zq0)
   refine ix (he _ _ h1) L.length (o2) (o82 l2 hb) ?_
   refine ix (he _ _ h2) L.length (o2) (o10 hb) ?_
   conv => whnf
   have b1 := B7 n1.1 L.length
   have b2 := B7 n2.1 L.length
   refine ⟨⟨_, hL⟩, ?_⟩
   refine iEA _ ⟨hf1, hL, by simp; show L.length < 16777216; exact ln 0x22222210000007fb013e0e0ba72301207ffff86fb124 [L.length, ML, l.length, m.length] hML l1 l2 hb⟩ ?_
   intro υ' hu1 hu2
   rw [C1 (by exact lz 0x2222221a0a0b620b610b600b63 [c, gt l L.length, gt m L.length] zq2.2.2.1 b1.1 b2.1), Ck] at hu2
   refine And.intro (rfl) (?_)
   refine And.intro (by decide) (?_)
   rw [P8]
   refine Bf _ _ _ rfl (he.but hu1 hf2) hu2 (by simp) (o83 hb) (lo.snoc (lz 0x22200b600b61 [(c + (gt l L.length + gt m L.length)) % 256] (Int.emod_nonneg (b := 256) (c + (gt l L.length + gt m L.length)) (by decide))) (lz 0x2221003fb071003fb071 [(c + (gt l L.length + gt m L.length)) % 256] (Int.emod_lt_of_pos (b := 256) (c + (gt l L.length + gt m L.length)) (by decide)))) (lz 0x2122222003f00b632a1a401003f8a81003fb4730b620b610b65 [(c + (gt l L.length + gt m L.length)) / 256, c, gt l L.length, gt m L.length, (c + (gt l L.length + gt m L.length)) % 256] c0 b1.1 b2.1 (Int.emod_lt_of_pos (b := 256) (c + (gt l L.length + gt m L.length)) (by decide)) (Int.mul_ediv_add_emod (c + (gt l L.length + gt m L.length)) 256)) (lz 0x2222222003f1b0632a1a401003f8a840b61003fb371003fb271b165 [(c + (gt l L.length + gt m L.length)) / 256, c, gt l L.length, gt m L.length, (c + (gt l L.length + gt m L.length)) % 256] c1 b1.2 b2.2 (Int.emod_nonneg (b := 256) (c + (gt l L.length + gt m L.length)) (by decide)) (Int.mul_ediv_add_emod (c + (gt l L.length + gt m L.length)) 256)) ?_
   rw [B9, Dd (o82 l2 hb), Dd (l := m) (o10 hb), Cs]
   have e1 := Int.emod_add_mul_ediv (c + (gt l L.length + gt m L.length)) 256
   generalize (c + (gt l L.length + gt m L.length)) / 256 = q at *
   generalize (c + (gt l L.length + gt m L.length)) % 256 = r at *
   have : (256 : Int) ^ L.length * (r + 256 * q) = 256 ^ L.length * (c + (gt l L.length + gt m L.length)) := by rw [e1]
   grind
  ·(refine fun _ υ => Bm fun c L u zq0 he hL hLl zq1 => ?_; subst zq0; refine Dz zq1 fun hk lo c0 c1 hv1 => ?_)
   rw [Bp] at hLl hv1
   rw [show ((m.length : Int) - 0).toNat = m.length by rfl] at hLl hv1
   rw [By (Nat.le_refl _)] at hv1
   refine iEA _ (he _ _ h2) ?_
   refine iEA _ (he _ _ h1) ?_
   conv => whnf
   simp only [List.length_map]
   refine ⟨⟨by unfold small; lia, by unfold small; lia⟩, ?_⟩
   refine Ar (fun k ρ υ => ∃ c L u, ρ = [some (.ref a), some (.ref b), some (.int 8), some (.ref f), some (.int c), some (.int 255), u] ∧ Ext σ υ ∧ υ f = some (iL L) ∧ L.length = m.length + k ∧ m.length + k ≤ l.length ∧ Lo L ∧ 0 ≤ c ∧ c ≤ 1 ∧ val L + 256 ^ (m.length + k) * c = val (l.take (m.length + k)) + val m) (Bf c L u rfl he hL hLl l2 lo c0 c1 (by rw [Nat.add_zero]; exact hv1)) (fun _ _ _ _ => trivial) ?_ ?_
   ·(refine fun k _ υ it => Bm fun c L u zq0 he hL hLl zq1 => ?_; subst zq0; refine Dz zq1 fun hk lo c0 c1 hv => ?_; refine fun hit => ?_)
    (refine zA (Bx hit) fun zq0 hb => ?_; subst zq0)
    refine ix (he _ _ h1) L.length (ln 0x22122e1e0ea810a221 [m.length, k, L.length] hLl) (ln 0x22221011e3e2ea732a022 [L.length, l.length, m.length, k] hLl hb) ?_
    conv => whnf
    have b1 := B7 n1.1 L.length
    refine ⟨⟨_, hL⟩, ?_⟩
    refine iEA _ ⟨hf1, hL, by simp; show L.length < 16777216; exact ln 0x22222210000007fb012e4e3ea743a021207ffff86fb124 [L.length, ML, l.length, m.length, k] hML l1 hLl hb⟩ ?_
    intro υ' hu1 hu2
    rw [C1 (by exact lz 0x222210a0b610b600b62 [c, gt l L.length] c0 b1.1), Ck] at hu2
    refine And.intro (rfl) (?_)
    refine And.intro (by decide) (?_)
    rw [P8]
    refine Bf _ _ _ rfl (he.but hu1 hf2) hu2 (by simp; exact ln 0x12221b2a1a1b0a221a021 [L.length, m.length, k] hLl) (ln 0x22221b1a0a02e1e0ea71 [m.length, k, l.length] hb) (lo.snoc (o84) (o85)) (lz 0x212222003f00b621a301003f8a81003fb3720b610b64 [(c + gt l L.length) / 256, c, gt l L.length, (c + gt l L.length) % 256] c0 b1.1 (Int.emod_lt_of_pos (b := 256) (c + gt l L.length) (by decide)) (Int.mul_ediv_add_emod (c + gt l L.length) 256)) (lz 0x222222003f1b0621a301003f8a830b61003fb271b164 [(c + gt l L.length) / 256, c, gt l L.length, (c + gt l L.length) % 256] c1 b1.2 (Int.emod_nonneg (b := 256) (c + gt l L.length) (by decide)) (Int.mul_ediv_add_emod (c + gt l L.length) 256)) ?_
    rw [← hLl] at hv
    rw [← Nat.add_assoc, ← hLl, B9, Dd (by exact ln 0x22221011e3e2ea732a022 [L.length, l.length, m.length, k] hLl hb), Cs]
    have e1 := Int.emod_add_mul_ediv (c + gt l L.length) 256
    generalize (c + gt l L.length) / 256 = q at *
    generalize (c + gt l L.length) % 256 = r at *
    have : (256 : Int) ^ L.length * (r + 256 * q) = 256 ^ L.length * (c + gt l L.length) := by rw [e1]
    grind
   ·(refine fun _ υ => Bm fun c L u zq0 he hL hLl zq1 => ?_; subst zq0; refine Dz zq1 fun hk lo c0 c1 hv2 => ?_)
    rw [Bp] at hLl hv2
    rw [show m.length + ((l.length : Int) - m.length).toNat = l.length by lia] at hLl hv2
    rw [By (Nat.le_refl _)] at hv2
    have hge : l ≠ [] → 256 ^ (l.length - 1) ≤ val l := n1.ge
    have hm := Ap n2.1
    refine And.intro (fun e => ?_) (fun e => ?_)
    ·have e := of_decide_eq_true e
     have c1 : c = 1 := by exact lz 0x2020221b0800b71b062 [c] zq1.2.2.2.1 e
     subst c1
     refine And.intro (⟨_, hL⟩) (?_)
     refine iEA _ ⟨hf1, hL, by simp; show L.length < 16777216; exact o86 hML l1 hLl⟩ ?_
     intro υ' hu1 hu2
     rw [Ck] at hu2
     refine And.intro (rfl) (?_)
     refine hQ f υ' hf1 hf2 (he.but hu1 hf2) (Ay _ hu2 (Nrm.of_ge (lo.snoc (by decide) (by decide)) fun _ => ?_) ?_)
     ·rw [List.length_append, List.length_singleton, Nat.add_sub_cancel, B9]
      have := Ap lo
      exact lz 0x2220191a0610b61 [256 ^ L.length, val L] this
     ·rw [B9, hLl]; exact lz 0x11222232a1190a854a1190a832a54a82 [val L, 256 ^ l.length, x, y, val l, val m] hv hv2
    ·have e := of_decide_eq_false e
     have c1 : c = 0 := by exact lz 0x222020b0800ba00b62 [c] zq1.2.2.1 e
     subst c1
     refine hQ f υ hf1 hf2 he (Ay _ hL (Nrm.of_ge lo fun hne => ?_) (by lia))
     rw [hLl]
     have : l ≠ [] := fun q => hne (List.length_eq_zero_iff.mp (by rw [hLl, q]; rfl))
     have := hge this
     exact fN hv1 hm hv2 this
theorem Cd (l : List Int) (j : Nat) : val (l.take (j + 1)) = val (l.take j) + 256 ^ j * gt l j := by
 rcases Nat.lt_or_ge j l.length with h | h
 ·exact Dd h
 ·rw [By h, By (Nat.le_succ_of_le h), Kk h]; exact lz 0x221090a080 [val l, 256 ^ j]
include G in
theorem aG {a b : Addr} {x y : Int} {σ : Aa} {Q : V → Aa → Prop} (ha : IsN σ a x) (hb : IsN σ b y) (hx : x < 256 ^ ML) (hy : y < 256 ^ ML) (hyx : y ≤ x)
  (hQ : ∀ r σ', Bs h0 r → σ r = none → Ext σ σ' → IsN σ' r (x - y) → Q (.ref r) σ') : CC prog w h0 (n + 2) (.ref 86) [.ref a, .ref b, .int 8] σ Q := by
 have hML := Ch
 refine enter G [some (.ref a), some (.ref b), some (.int 8), none, none, none, none, none] (cH _) rfl rfl ?_
 refine Ev G ha hb hx hy ?_
 (refine A6 ha fun l h1 n1 zq0 => ?_; subst zq0)
 (refine A6 hb fun m h2 n2 zq0 => ?_; subst zq0)
 have l1 := n1.len_le hx
 have l2 := n2.len_le hy
 refine And.intro (fun e => ?_) (fun e => ?_)
 ·have e := of_decide_eq_true e
  unfold Dv at e
  rw [if_neg (by exact lz 0x22210a0161 [val l, val m] hyx)] at e
  split at e <;> lia
 clear e
 conv => whnf
 intro f τ hf1 hf2 hf3 hf4
 refine And.intro (⟨by decide, by decide⟩) (?_)
 refine iEA _ (hf3 _ _ h1) ?_
 conv => whnf
 simp only [List.length_map]
 refine ⟨by unfold small; lia, ?_⟩
 have hml : m.length ≤ l.length := by
  rcases Nat.lt_or_ge l.length m.length with q | q
  ·have := E5 n1 n2 q; exact lq 0x22201000171062 [m.length, l.length] [val m, val l] hyx this
  ·exact q
 refine Ar (fun k ρ υ => ∃ c L u v, ρ = [some (.ref a), some (.ref b), some (.int 8), some (.ref f), some (.int c), some (.int 256), u, v] ∧ Ext σ υ ∧ υ f = some (iL L) ∧ L.length = k ∧ k ≤ l.length ∧ Lo L ∧ 0 ≤ c ∧ c ≤ 1 ∧ val L - 256 ^ k * c = val (l.take k) - val (m.take k)) (B5 0 ([]) none none rfl hf3 hf4 rfl (Nat.zero_le _) ⟨Lo.nil, by decide, by decide, by simp [val]⟩) (fun _ _ _ _ => trivial) ?_ ?_
 ·(refine fun k _ υ it => D0 fun c L u v zq0 => ?_; refine L4 zq0 fun zq1 he hL zq2 hk lo c0 c1 hv => ?_; subst zq1; subst zq2; refine fun hit => ?_)
  (refine zA (Bx hit) fun zq0 hb => ?_; subst zq0)
  have b1 := B7 n1.1 L.length
  have b2 := B7 n2.1 L.length
  refine ix (he _ _ h1) L.length (o2) (o10 hb) ?_
  refine iEA _ (he _ _ h2) ?_
  conv => whnf
  refine Hj (P := (fun v τ => υ = τ ∧ v = .int (gt m L.length))) (F := fun N => (decide _ = true → wpE _ _ _ _ _ N) ∧ (decide _ = false → wpE _ _ _ _ _ N)) ?_ ?_
  ·intro N hN
   refine ⟨fun e => ?_, fun e => ?_⟩
   ·have e := of_decide_eq_true e
    simp only [List.length_map] at e
    refine ix (he _ _ h2) L.length (o2) (o10 e) ?_
    exact hN _ _ ⟨rfl, rfl⟩
   ·have e := of_decide_eq_false e
    simp only [List.length_map] at e
    refine hN _ _ ⟨rfl, ?_⟩
    rw [Kk (by exact ln 0x2221000e1e0baa1 [m.length, L.length] e)]
  ·(refine fun _ _ => yA fun zq0 zq1 => ?_; subst zq0; subst zq1)
   conv => whnf
   refine Hj (P := (fun v τ => υ = τ ∧ v = .int (if gt l L.length - c - gt m L.length < 0 then 1 else 0))) (F := fun N => (decide _ = true → wpE _ _ _ _ _ N) ∧ (decide _ = false → wpE _ _ _ _ _ N)) ?_ ?_
   ·intro N hN
    refine ⟨fun e => ?_, fun e => ?_⟩
    ·have e := of_decide_eq_true e
     exact hN _ _ ⟨rfl, by rw [if_pos e]⟩
    ·have e := of_decide_eq_false e
     exact hN _ _ ⟨rfl, by rw [if_neg e]⟩
   ·(refine fun _ _ => yA fun zq0 zq1 => ?_; subst zq0; subst zq1)
    refine And.intro (⟨_, hL⟩) (?_)
    conv => whnf
    refine Hj (P := (fun v τ => υ = τ ∧ v = .int (if gt l L.length - c - gt m L.length < 0 then gt l L.length - c - gt m L.length + 256 else gt l L.length - c - gt m L.length))) (F := fun N => (decide _ = true → wpE _ _ _ _ _ N) ∧ (decide _ = false → wpE _ _ _ _ _ N)) ?_ ?_
    ·intro N hN
     refine ⟨fun e => ?_, fun e => ?_⟩
     ·have e := of_decide_eq_true e
      exact hN _ _ ⟨rfl, by rw [if_pos e]⟩
     ·have e := of_decide_eq_false e
      exact hN _ _ ⟨rfl, by rw [if_neg e]⟩
    ·(refine fun _ _ => yA fun zq0 zq1 => ?_; subst zq0; subst zq1)
     refine iEA _ ⟨hf1, hL, by simp; show L.length < 16777216; exact ln 0x2222210000007fb012e0e0ba71207ffff86fb123 [L.length, ML, l.length] hML l1 hb⟩ ?_
     intro υ' hu1 hu2
     rw [Ck] at hu2
     refine And.intro (rfl) (?_)
     refine B5 _ _ _ _ rfl (he.but hu1 hf2) hu2 (by simp) (o83 hb) ⟨lo.snoc (by split <;> lia) (by split <;> lia), by split <;> lia, by split <;> lia, ?_⟩
     rw [B9, Cd, Cd, Cs]
     split <;> grind
 ·(refine fun _ υ => D0 fun c L u v zq0 => ?_; refine L4 zq0 fun zq1 he hL hLl hk lo c0 c1 hv => ?_; subst zq1)
  rw [Bp] at hLl hv
  rw [show ((l.length : Int) - 0).toNat = l.length by rfl] at hLl hv
  rw [By (Nat.le_refl _), By hml] at hv
  have hlt := C7 lo
  rw [hLl] at hlt
  have c0' : c = 0 := by
   by_cases q : 0 < c
   ·have : c = 1 := by exact lz 0x2020221b0800b71b062 [c] c1 q
    subst this; exact lz 0x212200b1b801c3192c83271063 [val m, val l, val L, 256 ^ l.length] hyx hlt hv
   ·exact lz 0x222020b0800ba00b62 [c] c0 q
  subst c0'
  refine Eu G hL lo fun r σ' hr1 hr2 hr3 hr4 => ?_
  rw [show val L = val l - val m by (exact lz 0x122221c0821c3090c81 [val L, val l, val m, 256 ^ l.length] hv)] at hr4
  exact hQ r σ' hr1 (he.none hr2) (he.trans hr3) hr4
include G in
theorem Q7 {a : Addr} {x d : Int} {σ : Aa} {Q : V → Aa → Prop} (ha : IsN σ a x) (hx : x < 256 ^ ML) (hd0 : 0 ≤ d) (hd : d < 256)
  (hQ : ∀ r σ', Bs h0 r → σ r = none → Ext σ σ' → IsN σ' r (x + d) → Q (.ref r) σ') : CC prog w h0 (n + 1) (.ref 93) [.ref a, .int d, .int 8] σ Q := by
 have hML := Ch
 (refine A6 ha fun l h1 n1 zq0 => ?_; subst zq0)
 have l1 := n1.len_le hx
 refine enter G [some (.ref a), some (.int d), some (.int 8), none, none, none] (Pc _) rfl rfl ?_
 conv => whnf
 intro f τ hf1 hf2 hf3 hf4
 refine And.intro (⟨by decide, by decide⟩) (?_)
 refine iEA _ (hf3 _ _ h1) ?_
 refine Ar (fun k ρ υ => ∃ c L u, ρ = [some (.ref a), some (.int c), some (.int 8), some (.ref f), some (.int 255), u] ∧ Ext σ υ ∧ υ f = some (iL L) ∧ L.length = k ∧ k ≤ l.length ∧ Lo L ∧ 0 ≤ c ∧ c < 256 ∧ (0 < k → c ≤ 1) ∧ val L + 256 ^ k * c = val (l.take k) + d) (Bf d ([]) none rfl hf3 hf4 rfl (Nat.zero_le _) Lo.nil hd0 hd ⟨fun q => absurd q (Nat.lt_irrefl _), by simp [val]⟩) ?_ ?_ ?_
 ·(refine fun k _ υ => H3 fun c L u zq0 he _ => ?_; subst zq0)
  exact he _ _ h1
 ·(refine fun k _ υ it => Bm fun c L u zq0 he hL zq1 zq2 => ?_; subst zq0; subst zq1; refine G0 zq2 fun hk lo c0 c1 c2 hv => ?_; refine fun hit => ?_)
  have b1 := B7 n1.1 L.length
  obtain ⟨hkl, rfl⟩ : L.length < l.length ∧ it = [.int (gt l L.length)] := by
   rcases Nat.lt_or_ge L.length l.length with q | q
   ·rw [List.getElem?_map, List.getElem?_map, Bg q] at hit
    cases hit; exact ⟨q, rfl⟩
   ·rw [List.getElem?_eq_none (by simpa using q)] at hit; cases hit
  refine And.intro (⟨_, hL⟩) (?_)
  refine iEA _ ⟨hf1, hL, by simp; show L.length < 16777216; exact ln 0x2222210000007fb012011207ffff86fb123 [L.length, ML, l.length] hML l1 hkl⟩ ?_
  intro υ' hu1 hu2
  rw [C1 (by exact lz 0x222210a0b610b600b62 [c, gt l L.length] c0 b1.1), Ck] at hu2
  refine And.intro (rfl) (?_)
  refine And.intro (by decide) (?_)
  rw [P8]
  refine Bf _ _ _ rfl (he.but hu1 hf2) hu2 (by simp) ‹_› (lo.snoc (o84) (o85)) (lz 0x212222003f00b621a301003f8a81003fb3720b610b64 [(c + gt l L.length) / 256, c, gt l L.length, (c + gt l L.length) % 256] c0 b1.1 (Int.emod_lt_of_pos (b := 256) (c + gt l L.length) (by decide)) (Int.mul_ediv_add_emod (c + gt l L.length) 256)) (lz 0x222222003f1003fb0721a301003f8a830b61003fb271003fb174 [(c + gt l L.length) / 256, c, gt l L.length, (c + gt l L.length) % 256] c1 b1.2 (Int.emod_nonneg (b := 256) (c + gt l L.length) (by decide)) (Int.mul_ediv_add_emod (c + gt l L.length) 256)) ⟨fun _ => by exact lz 0x222222003f1b0621a301003f8a830b61003fb271003fb174 [(c + gt l L.length) / 256, c, gt l L.length, (c + gt l L.length) % 256] c1 b1.2 (Int.emod_nonneg (b := 256) (c + gt l L.length) (by decide)) (Int.mul_ediv_add_emod (c + gt l L.length) 256), ?_⟩
  rw [B9, Cd, Cs]
  have e1 := Int.emod_add_mul_ediv (c + gt l L.length) 256
  generalize (c + gt l L.length) / 256 = q at *
  generalize (c + gt l L.length) % 256 = r at *
  have : (256 : Int) ^ L.length * (r + 256 * q) = 256 ^ L.length * (c + gt l L.length) := by rw [e1]
  grind
 ·(refine fun _ υ => Bm fun c L u zq0 he hL hLl zq1 => ?_; subst zq0; refine G0 zq1 fun hk lo c0 c1 c2 hv => ?_)
  simp only [List.length_map] at hLl hv c2
  rw [By (Nat.le_refl _)] at hv
  have hge : l ≠ [] → 256 ^ (l.length - 1) ≤ val l := n1.ge
  have hm := Ap lo
  refine And.intro (fun e => ?_) (fun e => ?_)
  ·have e := of_decide_eq_true e
   refine And.intro (⟨_, hL⟩) (?_)
   refine iEA _ ⟨hf1, hL, by simp; show L.length < 16777216; exact o86 hML l1 hLl⟩ ?_
   intro υ' hu1 hu2
   rw [Ck] at hu2
   refine And.intro (rfl) (?_)
   refine hQ f υ' hf1 hf2 (he.but hu1 hf2) (Ay _ hu2 (Nrm.of_ge (lo.snoc (by omega) (by omega)) fun _ => ?_) ?_)
   ·rw [List.length_append, List.length_singleton, Nat.add_sub_cancel, B9]
    have := Int.mul_le_mul_of_nonneg_left (show 1 ≤ c by assumption) (Int.le_of_lt (Aw L.length))
    exact lz 0x222221a062019610b62 [256 ^ L.length, val L, 256 ^ L.length * c] hm this
   ·rw [B9, hLl]; omega
  ·have e := of_decide_eq_false e
   have c0' : c = 0 := by exact lz 0x222020b0800ba00b62 [c] c0 e
   subst c0'
   refine hQ f υ hf1 hf2 he (Ay _ hL (Nrm.of_ge lo fun hne => ?_) (lz 0x122221a0821a3090a81 [val L, val l, d, 256 ^ l.length] hv))
   rw [hLl]
   have : l ≠ [] := fun q => hne (List.length_eq_zero_iff.mp (by rw [hLl, q]; rfl))
   have := hge this
   exact lz 0x2212210640624a3091a820b63 [256 ^ (l.length - 1), val L, d, 256 ^ l.length, val l] hd0 hv this
end
theorem Ks {x y : Int} (hx : 0 ≤ x) (hy : 0 ≤ y) : Builtin.bitOr x y = ((x.toNat ||| y.toNat : Nat) : Int) := by
 have e1 : decide (0 ≤ Builtin.bitNot x) = false := by
  unfold Builtin.bitNot; rw [decide_eq_false_iff_not]; exact lz 0x2221b0dc0b900b61 [x] hx
 have e2 : decide (0 ≤ Builtin.bitNot y) = false := by
  unfold Builtin.bitNot; rw [decide_eq_false_iff_not]; exact lz 0x2221b0dc0b900b61 [y] hy
 have f : ∀ z : Int, Builtin.bitNot (Builtin.bitNot z) = z := fun z => by unfold Builtin.bitNot; exact lz 0x2201b1b0dcdc80 [z]
 unfold Builtin.bitOr Builtin.bitAnd
 rw [e1, e2]
 dsimp only
 rw [f, f, f]
theorem Kd {x y : Int} {i : Nat} (hx : 0 ≤ x) (hy : 0 ≤ y) (h : y < 2 ^ i) : Builtin.bitOr (x * 2 ^ i) y = x * 2 ^ i + y := by
 have hp : (0 : Int) < 2 ^ i := Int.pow_pos (by decide)
 rw [Ks (Int.mul_nonneg hx (Int.le_of_lt hp)) hy]
 (refine zE (Int.eq_ofNat_of_zero_le hx) fun a zq0 => ?_; subst zq0)
 (refine zE (Int.eq_ofNat_of_zero_le hy) fun b zq0 => ?_; subst zq0)
 have e : ((a : Int) * 2 ^ i) = ((2 ^ i * a : Nat) : Int) := by rw [Int.natCast_mul, Int.natCast_pow, Int.mul_comm]; rfl
 have hb : b < 2 ^ i := by
  have : ((b : Nat) : Int) < ((2 ^ i : Nat) : Int) := by rw [Int.natCast_pow]; exact h
  exact Int.ofNat_lt.mp this
 rw [e, Int.toNat_natCast, Int.toNat_natCast, ← Nat.two_pow_add_eq_or_of_lt hb]
 rfl
theorem Of {x y : Int} (hx : 0 ≤ x) (hy : 0 ≤ y) : Builtin.bitOr x y = Builtin.bitOr y x := by
 rw [Ks hx hy, Ks hy hx, Nat.or_comm]
theorem Cn {a b : Int} (h : 0 ≤ b) : a.fdiv b = a / b := Int.fdiv_eq_ediv_of_nonneg _ h
theorem Ct {a b : Int} (h : 0 ≤ b) : a.fmod b = a % b := Int.fmod_eq_emod_of_nonneg _ h
theorem Ep {q d c x : Int} (h0 : 0 ≤ c) (h1 : c < d) (h : q * d + c = x) : q = x / d ∧ c = x % d := by
 subst h
 have hd : d ≠ 0 := by exact lz 0x22220b0b01710b62 [d, c] h0 h1
 refine ⟨?_, ?_⟩
 ·rw [Int.add_comm, Int.add_mul_ediv_right _ _ hd, Int.ediv_eq_zero_of_lt h0 h1]; exact lz 0x2200ba080 [q]
 ·rw [Int.add_comm, Int.add_mul_emod_self_right, Int.emod_eq_of_lt h0 h1]
theorem stx {B : Addr → Prop} {σ : Aa} {x : Addr} {l : List Int} {n v : Int} {Q : Aa → Prop} (hB : B x) (h : σ x = some (iL l)) (j : Nat) (hn : n = (j : Int)) (hj : j < l.length) (q : ∀ σ', Ag x σ σ' → σ' x = some (iL (l.set j v)) → Q σ') :
  ∃ xs j', (B x ∧ σ x = some (.list xs) ∧ n = ((j' : Nat) : Int) ∧ j' < xs.length) ∧ ∀ σ', Ag x σ σ' → σ' x = some (.list (xs.set j' (.int v))) → Q σ' :=
 (C5 _ j ⟨hB, h, hn, by simpa using hj⟩ (fun σ' e1 e2 => q σ' e1 (by rw [e2]; show _ = some (Ed.list ((l.set j v).map V.int)); rw [List.map_set])))
theorem Jo (n : Nat) : List.replicate n (V.int 0) = (List.replicate n (0 : Int)).map .int := by simp
section
variable {h0 : Heap} {prog : Program} {w : World} {mg mb : Str → Option Value} (G : Gd (KK w) h0 mg mb) {n : Nat}
include G in
theorem Lq {a : Addr} {x d : Int} {σ : Aa} {Q : V → Aa → Prop} (ha : IsN σ a x) (hx : x < 256 ^ ML) (hd0 : 0 < d) (hd : d < 256)
  (hQ : ∀ t r σ', Bs h0 t → σ t = none → σ r = none → Ext σ σ' → σ' t = some (.tup [.ref r, .int (x % d)]) → IsN σ' r (x / d) → Q (.ref t) σ') : CC prog w h0 (n + 2) (.ref 100) [.ref a, .int d, .int 8] σ Q := by
 have hML := Ch
 (refine A6 ha fun l h1 n1 zq0 => ?_; subst zq0)
 have l1 := n1.len_le hx
 refine enter G [some (.ref a), some (.int d), some (.int 8), none, none, none] (K3 _) rfl rfl ?_
 refine And.intro (fun e => ?_) (fun e => ?_)
 ·have e := of_decide_eq_true e; exact False.elim (lz 0x2220f0b0800b72 [d] hd0 e)
 clear e
 conv => whnf
 intro z τ hz1 hz2 hz3 hz4
 refine iEA _ (hz3 _ _ h1) ?_
 conv => whnf
 simp only [List.length_map]
 refine iEA (.int 0) ⟨hz4, ln 0x220e0b60 [l.length], by show _ ≤ (16777216 : Int); exact ln 0x222210000007fb0e61007ffff86fb122 [l.length, ML] hML l1⟩ ?_
 intro f τ' hf1 hf2 hf3 hf4
 replace hf2 := hz3.none hf2
 replace hf3 := hz3.trans hf3
 rw [Jo, Int.toNat_natCast] at hf4
 refine iEA _ (hf3 _ _ h1) ?_
 conv => whnf
 simp only [List.length_map]
 refine ⟨⟨by unfold small; lia, by unfold small; lia, by first | rfl | trivial⟩, ?_⟩
 refine Ar (fun k ρ υ => ∃ c F u, ρ = [some (.ref a), some (.int d), some (.int 8), some (.ref f), some (.int c), u] ∧ Ext σ υ ∧ υ f = some (iL F) ∧ F.length = l.length ∧ k ≤ l.length ∧ Lo F ∧ 0 ≤ c ∧ c < d ∧ val (F.drop (l.length - k)) * d + c = val (l.drop (l.length - k))) (Bf 0 _ none rfl hf3 hf4 (by simp) (Nat.zero_le _) Lo.rep (Int.le_refl _) hd0 (by simp [val])) (fun _ _ _ _ => trivial) ?_ ?_
 ·(refine fun k _ υ it => Bm fun c F u zq0 he hF hFl zq1 => ?_; subst zq0; refine Dz zq1 fun hk lo c0 c1 hv => ?_; refine fun hit => ?_)
  (refine zA (Ff hit) fun zq0 hb => ?_; subst zq0)
  have b1 := B7 n1.1 (l.length - 1 - k)
  refine And.intro (⟨by decide, ?_⟩) (?_)
  ·have : bitsI c ≤ 64 := Ce (by lia) (by lia)
   show (bitsI c : Int) + 8 ≤ 67108864
   exact o87 this
  refine ix (he _ _ h1) (l.length - 1 - k) (ln 0x2221122e1e1b0ecc801b3a2312a22 [l.length, k, l.length - 1 - k, l.length - 1] (lsc (l.length - 1) k (ln 0x22121000e1b2ecc1bd721b1a22 [k, l.length - 1, l.length] (lsc l.length 1 (ln 0x22201b01e1b0ecc1bd71 [l.length, k] hb)) hb)) (lsc l.length 1 (ln 0x22201b01e1b0ecc1bd71 [l.length, k] hb))) (ln 0x222210111b3a2320a22 [l.length - 1 - k, l.length, k, l.length - 1] (lsc (l.length - 1) k (ln 0x22121000e1b2ecc1bd721b1a22 [k, l.length - 1, l.length] (lsc l.length 1 (ln 0x22201b01e1b0ecc1bd71 [l.length, k] hb)) hb)) (lsc l.length 1 (ln 0x22201b01e1b0ecc1bd71 [l.length, k] hb))) ?_
  conv => whnf
  rw [show Int.toNat 8 = 8 from rfl, Kd c0 b1.1 (by show _ < (256 : Int); exact o88 b1)]
  refine ⟨⟨o89 hd0 hd, lq 0x2222400000008fb0100e81003fb072 [d.natAbs] [d] hd (lnn d (lz 0x22200b600b71 [d] hd0))⟩, ?_⟩
  refine stx hf1 hF (l.length - 1 - k) (ln 0x2221122e1e1b0ecc801b3a2312a22 [l.length, k, l.length - 1 - k, l.length - 1] (lsc (l.length - 1) k (ln 0x22121000e1b2ecc1bd721b1a22 [k, l.length - 1, l.length] (lsc l.length 1 (ln 0x22201b01e1b0ecc1bd71 [l.length, k] hb)) hb)) (lsc l.length 1 (ln 0x22201b01e1b0ecc1bd71 [l.length, k] hb))) (o90 hFl hb) fun υ' hu1 hu2 => ?_
  refine And.intro (o89 hd0 hd) (?_)
  rw [Cn (o35 hd0 hd)] at hu2
  have hlt : c * 2 ^ 8 + gt l (l.length - 1 - k) < 256 * d := by
   have := Int.mul_le_mul_of_nonneg_right (show c ≤ d - 1 by exact lz 0x2221b1c061071 [c, d] c1) (show (0 : Int) ≤ 2 ^ 8 by decide)
   have e8 : (2 : Int) ^ 8 = 256 := rfl
   rw [e8] at *; exact lz 0x222003f221003f8101003f9a71003fb172072 [c, gt l (l.length - 1 - k), d] zq1.2.2.2.1 b1.2
  have hge : 0 ≤ c * 2 ^ 8 + gt l (l.length - 1 - k) := by
   have := Int.mul_nonneg c0 (show (0 : Int) ≤ 2 ^ 8 by decide); lia
  have q0 : 0 ≤ (c * 2 ^ 8 + gt l (l.length - 1 - k)) / d := Int.ediv_nonneg hge (o35 hd0 hd)
  have q1 : (c * 2 ^ 8 + gt l (l.length - 1 - k)) / d < 256 := Int.ediv_lt_of_lt_mul hd0 hlt
  refine Bf _ _ _ rfl (he.but hu1 hf2) hu2 (by simp [hFl]) (ln 0x22211b0a00e1b1ecc1bd71 [k, l.length] hb) (lo.set q0 q1) ?_ ?_ ?_
  ·rw [Ct (o35 hd0 hd)]; exact Int.emod_nonneg _ (o89 hd0 hd)
  ·rw [Ct (o35 hd0 hd)]; exact Int.emod_lt_of_pos _ hd0
  ·rw [Ct (o35 hd0 hd), show l.length - (k + 1) = l.length - 1 - k by (exact ln 0x2212112210231b4a2421a231b2a0a23 [l.length - (k + 1), l.length - 1 - k, k, l.length, l.length - 1] (lsc l.length (k + 1) (ln 0x22211b0a00e1b1ecc1bd71 [k, l.length] hb)) (lsc (l.length - 1) k (ln 0x22121000e1b2ecc1bd721b1a22 [k, l.length - 1, l.length] (lsc l.length 1 (ln 0x22201b01e1b0ecc1bd71 [l.length, k] hb)) hb)) (lsc l.length 1 (ln 0x22201b01e1b0ecc1bd71 [l.length, k] hb)))]
   rw [show l.length - k = l.length - 1 - k + 1 by (exact ln 0x221211221b1a0231b4a2421a2320a23 [l.length - k, l.length - 1 - k, k, l.length, l.length - 1] (lsc l.length k (ln 0x2221000e1b1ecc1bd71 [k, l.length] hb)) (lsc (l.length - 1) k (ln 0x22121000e1b2ecc1bd721b1a22 [k, l.length - 1, l.length] (lsc l.length 1 (ln 0x22201b01e1b0ecc1bd71 [l.length, k] hb)) hb)) (lsc l.length 1 (ln 0x22201b01e1b0ecc1bd71 [l.length, k] hb)))] at hv
   rw [Bi (by simp; exact o90 hFl hb), Bi (l := l) (by exact ln 0x222210111b3a2320a22 [l.length - 1 - k, l.length, k, l.length - 1] (lsc (l.length - 1) k (ln 0x22121000e1b2ecc1bd721b1a22 [k, l.length - 1, l.length] (lsc l.length 1 (ln 0x22201b01e1b0ecc1bd71 [l.length, k] hb)) hb)) (lsc l.length 1 (ln 0x22201b01e1b0ecc1bd71 [l.length, k] hb))), Iy (by exact o90 hFl hb), List.drop_set_of_lt (by exact ln 0x221b0a010 [l.length - 1 - k])]
   have e1 := Int.emod_add_mul_ediv (c * 2 ^ 8 + gt l (l.length - 1 - k)) d
   generalize (c * 2 ^ 8 + gt l (l.length - 1 - k)) / d = q at *
   generalize (c * 2 ^ 8 + gt l (l.length - 1 - k)) % d = r at *
   have e8 : (2 : Int) ^ 8 = 256 := rfl
   rw [e8] at e1
   grind
 ·(refine fun _ υ => Bm fun c F u zq0 he hF hFl zq1 => ?_; subst zq0; refine Dz zq1 fun hk lo c0 c1 hv => ?_)
  rw [Fe] at hv
  rw [show l.length - ((l.length : Int) - 1 - -1).toNat = 0 by (exact ln 0x2121220b021bd1b2ecc1e8210a22 [l.length - ((↑l.length : Int) - 1 - -1).toNat, ((↑l.length : Int) - 1 - -1).toNat, l.length] (lsc l.length (((↑l.length : Int) - 1 - -1).toNat) (ln 0x2221001bd1b1ecc0e81 [((↑l.length : Int) - 1 - -1).toNat, l.length] (ltn ((↑l.length : Int) - 1 - -1) (ln 0x221bd1b0ecc0b60 [l.length])))) (ltn ((↑l.length : Int) - 1 - -1) (ln 0x221bd1b0ecc0b60 [l.length])))] at hv
  simp only [List.drop_zero] at hv
  refine zA (Ep c0 c1 hv) fun e1 e2 => ?_
  refine Eu G hF lo fun r σ' hr1 hr2 hr3 hr4 => ?_
  conv => whnf
  intro t σ'' ht1 ht2 ht3 ht4
  refine hQ t r σ'' ht1 ((he.trans hr3).none ht2) (he.none hr2) ((he.trans hr3).trans ht3) ?_ ?_
  ·rw [ht4, e2]
  ·rw [← e1]; exact hr4.ext ht3
include G in
theorem Fh {a : Addr} {x : Int} {s : Nat} {σ : Aa} {Q : V → Aa → Prop} (ha : IsN σ a x) (hx : x < 256 ^ ML) (hs : s < 8)
  (hQ : ∀ t σ', Bs h0 t → σ t = none → Ext σ σ' → IsN σ' t (x * 2 ^ s) → Q (.ref t) σ') : CC prog w h0 (n + 1) (.ref 107) [.ref a, .int s, .int 8] σ Q := by
 have hML := Ch
 (refine A6 ha fun l h1 n1 zq0 => ?_; subst zq0)
 have l1 := n1.len_le hx
 refine enter G [some (.ref a), some (.int s), some (.int 8), none, none, none, none, none, none] (Lx _) rfl rfl ?_
 have hp : (0 : Int) < 2 ^ s := Int.pow_pos (by decide)
 have hp' : (2 : Int) ^ s ≤ 128 := by
  have : (2 : Int) ^ s ≤ 2 ^ 7 := by
   have h := Nat.pow_le_pow_right (show 0 < 2 by decide) (show s ≤ 7 by exact ln 0x2227b008b011 [s] hs)
   have := Int.ofNat_le.mpr h
   rwa [Int.natCast_pow, Int.natCast_pow] at this
  assumption
 refine iEA _ h1 ?_
 conv => whnf
 simp only [List.length_map]
 refine ⟨fun e => ?_, fun e => ?_⟩
 ·have e := of_decide_eq_true e
  have e : l = [] := List.length_eq_zero_iff.mp (ln 0x12220b020b0e81 [l.length] e)
  subst e
  conv => whnf
  intro t σ' h1 h2 h3 h4
  refine hQ t σ' h1 h2 h3 (Ay ([]) h4 Nrm.nil (by simp [val]))
 have e := of_decide_eq_false e
 have hne : l ≠ [] := fun q => e (by rw [q]; rfl)
 refine And.intro (⟨by decide, by decide⟩) (?_)
 refine And.intro (by decide) (?_)
 have e1 : (s : Int).fdiv 8 = 0 := by rw [Cn (by decide)]; exact dM hs
 have e2 : (s : Int).fmod 8 = s := by rw [Ct (by decide)]; exact dL hs
 rw [e1, e2]
 conv => whnf
 intro z τ hz1 hz2 hz3 hz4
 refine iEA (.int 0) ⟨hz4, by decide, by decide⟩ ?_
 intro f τ' hf1 hf2 hf3 hf4
 replace hf2 := hz3.none hf2
 replace hf3 := hz3.trans hf3
 refine And.intro (⟨by decide, by decide⟩) (?_)
 refine iEA _ (hf3 _ _ h1) ?_
 refine Ar (fun k ρ υ => ∃ c L u, ρ = [some (.ref a), some (.int s), some (.int 8), some (.int 0), some (.int s), some (.ref f), some (.int c), some (.int 255), u] ∧ Ext σ υ ∧ υ f = some (iL L) ∧ L.length = k ∧ k ≤ l.length ∧ Lo L ∧ 0 ≤ c ∧ c < 2 ^ s ∧ val L + 256 ^ k * c = val (l.take k) * 2 ^ s) (Bf 0 ([]) none rfl hf3 hf4 rfl (Nat.zero_le _) Lo.nil (Int.le_refl _) hp (by simp [val])) ?_ ?_ ?_
 ·(refine fun k _ υ => H3 fun c L u zq0 he _ => ?_; subst zq0)
  exact he _ _ h1
 ·(refine fun k _ υ it => Bm fun c L u zq0 he hL zq1 zq2 => ?_; subst zq0; subst zq1; refine Dz zq2 fun hk lo c0 c1 hv => ?_; refine fun hit => ?_)
  have b1 := B7 n1.1 L.length
  obtain ⟨hkl, rfl⟩ : L.length < l.length ∧ it = [.int (gt l L.length)] := by
   rcases Nat.lt_or_ge L.length l.length with q | q
   ·rw [List.getElem?_map, List.getElem?_map, Bg q] at hit
    cases hit; exact ⟨q, rfl⟩
   ·rw [List.getElem?_eq_none (by simpa using q)] at hit; cases hit
  refine And.intro (⟨ln 0x220e0b60 [s], ?_⟩) (?_)
  ·have : bitsI (gt l L.length) ≤ 64 := Ce (by lia) (by lia)
   show (bitsI (gt l L.length) : Int) + s ≤ 67108864
   exact ln 0x222240000007fb1e0ea6402fb008b112 [bitsI (gt l L.length), s] hs this
  have g0 : 0 ≤ gt l L.length * 2 ^ s := Int.mul_nonneg b1.1 (Int.le_of_lt hp)
  have g1 : gt l L.length * 2 ^ s ≤ 255 * 2 ^ s := Int.mul_le_mul_of_nonneg_right (o36 b1) (Int.le_of_lt hp)
  conv => whnf
  rw [Int.toNat_natCast, Of c0 g0, Kd b1.1 c0 c1]
  refine ⟨⟨_, hL⟩, ?_⟩
  refine iEA _ ⟨hf1, hL, by simp; show L.length < 16777216; exact ln 0x2222210000007fb012011207ffff86fb123 [L.length, ML, l.length] hML l1 hkl⟩ ?_
  intro υ' hu1 hu2
  rw [C1 (by exact lz 0x222210a0b600b610b62 [gt l L.length * 2 ^ s, c] zq2.2.2.1 g0), Ck] at hu2
  refine And.intro (rfl) (?_)
  refine And.intro (by decide) (?_)
  rw [P8]
  refine Bf _ _ _ rfl (he.but hu1 hf2) hu2 (by simp) ‹_› (lo.snoc (lz 0x22200b600b61 [(gt l L.length * 2 ^ s + c) % 256] (Int.emod_nonneg (b := 256) (gt l L.length * 2 ^ s + c) (by decide))) (lz 0x2221003fb071003fb071 [(gt l L.length * 2 ^ s + c) % 256] (Int.emod_lt_of_pos (b := 256) (gt l L.length * 2 ^ s + c) (by decide)))) (lz 0x212222003f00b612a301003f8a81003fb3720b610b64 [(gt l L.length * 2 ^ s + c) / 256, c, gt l L.length * 2 ^ s, (gt l L.length * 2 ^ s + c) % 256] c0 g0 (Int.emod_lt_of_pos (b := 256) (gt l L.length * 2 ^ s + c) (by decide)) (Int.mul_ediv_add_emod (gt l L.length * 2 ^ s + c) 256)) (lz 0x222222003f10723a401003f8a840b61ff2f8361274 [(gt l L.length * 2 ^ s + c) / 256, 2 ^ s, c, gt l L.length * 2 ^ s, (gt l L.length * 2 ^ s + c) % 256] zq2.2.2.2.1 g1 (Int.emod_nonneg (b := 256) (gt l L.length * 2 ^ s + c) (by decide)) (Int.mul_ediv_add_emod (gt l L.length * 2 ^ s + c) 256)) ?_
  rw [B9, Cd, Cs]
  have e1 := Int.emod_add_mul_ediv (gt l L.length * 2 ^ s + c) 256
  generalize (gt l L.length * 2 ^ s + c) / 256 = q at *
  generalize (gt l L.length * 2 ^ s + c) % 256 = r at *
  have : (256 : Int) ^ L.length * (r + 256 * q) = 256 ^ L.length * (gt l L.length * 2 ^ s + c) := by rw [e1]
  generalize (2 : Int) ^ s = p at *
  grind
 ·(refine fun _ υ => Bm fun c L u zq0 he hL hLl zq1 => ?_; subst zq0; refine Dz zq1 fun hk lo c0 c1 hv => ?_)
  simp only [List.length_map] at hLl hv
  rw [By (Nat.le_refl _)] at hv
  have hge := n1.ge hne
  have hm := Ap lo
  have hxp : val l ≤ val l * 2 ^ s := by
   have := Int.mul_le_mul_of_nonneg_left (show (1 : Int) ≤ 2 ^ s by assumption) (Ap n1.1)
   exact lz 0x222106101961 [val l, val l * 2 ^ s] this
  refine And.intro (fun e => ?_) (fun e => ?_)
  ·have e := of_decide_eq_true e
   refine And.intro (⟨_, hL⟩) (?_)
   refine iEA _ ⟨hf1, hL, by simp; show L.length < 16777216; exact o86 hML l1 hLl⟩ ?_
   intro υ' hu1 hu2
   rw [Ck] at hu2
   refine And.intro (rfl) (?_)
   refine hQ f υ' hf1 hf2 (he.but hu1 hf2) (Ay _ hu2 (Nrm.of_ge (lo.snoc (by omega) (lz 0x22221003fb07107802fb162 [c, 2 ^ s] hp' zq1.2.2.2.1)) fun _ => ?_) ?_)
   ·rw [List.length_append, List.length_singleton, Nat.add_sub_cancel, B9]
    have := Int.mul_le_mul_of_nonneg_left (show 1 ≤ c by assumption) (Int.le_of_lt (Aw L.length))
    exact lz 0x222221a062019610b62 [256 ^ L.length, val L, 256 ^ L.length * c] hm this
   ·rw [B9, hLl]; omega
  ·have e := of_decide_eq_false e
   have c0' : c = 0 := by exact lz 0x222020b0800ba00b62 [c] zq1.2.2.1 e
   subst c0'
   refine hQ f υ hf1 hf2 he (Ay _ hL (Nrm.of_ge lo fun _ => ?_) (lz 0x122210812090a81 [val L, val l * 2 ^ s, 256 ^ l.length] hv))
   rw [hLl]
   exact lz 0x2122210634091a83262063 [256 ^ (l.length - 1), val L, val l, val l * 2 ^ s, 256 ^ l.length] hge hxp hv
theorem dig {ab q P R : Int} (hR : 0 < R) (e : P * R = 256) (hP : 0 < P) (h0 : 0 ≤ q) (h1 : q < P) : (ab * P + q) % 256 = q + ab % R * P ∧ 0 ≤ q + ab % R * P ∧ q + ab % R * P < 256 := by
 have r0 := Int.emod_nonneg ab (Int.ne_of_gt hR)
 have r1 : ab % R * P + P ≤ 256 := by
  have := Int.mul_le_mul_of_nonneg_right (Int.add_one_le_of_lt (Int.emod_lt_of_pos ab hR)) (Int.le_of_lt hP)
  rw [Int.add_mul, Int.one_mul, Int.mul_comm R P, e] at this; exact this
 have m0 := Int.mul_nonneg r0 (Int.le_of_lt hP)
 have d : ab * P + q = q + ab % R * P + 256 * (ab / R) := by
  have d := congrArg (· * P) (Int.mul_ediv_add_emod ab R)
  simp only [Int.add_mul, Int.mul_right_comm R, Int.mul_comm R P, e] at d
  rw [← d]; ac_rfl
 have a0 : 0 ≤ q + ab % R * P := Int.add_nonneg h0 m0
 have a1 : q + ab % R * P < 256 := Int.lt_of_lt_of_le (Int.add_lt_add_right h1 _) (by rw [Int.add_comm]; exact r1)
 exact ⟨by rw [d, Int.add_mul_emod_self_left, Int.emod_eq_of_lt a0 a1], a0, a1⟩
theorem Wq {s : Nat} (hs : s < 8) {g ab : Int} (hg : 0 ≤ g ∧ g < 256) (hab : 0 ≤ ab ∧ ab < 256) :
  Builtin.bitAnd (Builtin.bitOr (g.fdiv (2 ^ s)) (ab * 2 ^ (8 - s))) 255 = g / 2 ^ s + ab % 2 ^ s * 2 ^ (8 - s) ∧ 0 ≤ g / 2 ^ s + ab % 2 ^ s * 2 ^ (8 - s) ∧ g / 2 ^ s + ab % 2 ^ s * 2 ^ (8 - s) < 256 := by
 have hp : (0 : Int) < 2 ^ s := Int.pow_pos (by decide)
 have hp' : (0 : Int) < 2 ^ (8 - s) := Int.pow_pos (by decide)
 have hd0 : 0 ≤ g / 2 ^ s := Int.ediv_nonneg hg.1 (Int.le_of_lt hp)
 have h8 : (2 : Int) ^ (8 - s) * 2 ^ s = 256 := by
  rw [← Int.pow_add, show 8 - s + s = 8 by (exact ln 0x12228b10a28b10a21 [8 - s, s] (lsc 8 s (ln 0x2228b008b011 [s] hs)))]; rfl
 have hd1 : g / 2 ^ s < 2 ^ (8 - s) := Int.ediv_lt_of_lt_mul hp (by rw [h8]; exact hg.2)
 rw [Cn (Int.le_of_lt hp), Of hd0 (Int.mul_nonneg hab.1 (Int.le_of_lt hp')), Kd hab.1 hd0 hd1, C1 (by have := Int.mul_nonneg hab.1 (Int.le_of_lt hp'); exact lz 0x222210a0b600b610b62 [ab * 2 ^ (8 - s), g / 2 ^ s] hd0 this)]
 exact dig hp h8 hp' hd0 hd1
include G in
theorem Lp {a : Addr} {x : Int} {s : Nat} {σ : Aa} {Q : V → Aa → Prop} (ha : IsN σ a x) (hx : x < 256 ^ ML) (hs : s < 8)
  (hQ : ∀ t σ', Bs h0 t → σ t = none → Ext σ σ' → IsN σ' t (x / 2 ^ s) → Q (.ref t) σ') : CC prog w h0 (n + 2) (.ref 114) [.ref a, .int s, .int 8] σ Q := by
 have hML := Ch
 (refine A6 ha fun l h1 n1 zq0 => ?_; subst zq0)
 have l1 := n1.len_le hx
 refine enter G [some (.ref a), some (.int s), some (.int 8), none, none, none, none, none, none] (K0 _) rfl rfl ?_
 have hp : (0 : Int) < 2 ^ s := Int.pow_pos (by decide)
 refine And.intro (⟨by decide, by decide⟩) (?_)
 refine And.intro (by decide) (?_)
 have e1 : (s : Int).fdiv 8 = 0 := by rw [Cn (by decide)]; exact dM hs
 have e2 : (s : Int).fmod 8 = s := by rw [Ct (by decide)]; exact dL hs
 rw [e1, e2]
 conv => whnf
 intro f τ' hf1 hf2 hf3 hf4
 refine And.intro (⟨by decide, by decide⟩) (?_)
 refine iEA _ (hf3 _ _ h1) ?_
 conv => whnf
 simp only [List.length_map]
 refine ⟨⟨by unfold small; lia, by unfold small; lia⟩, ?_⟩
 refine Ar (fun k ρ υ => ∃ L u v, ρ = [some (.ref a), some (.int s), some (.int 8), some (.int 0), some (.int s), some (.ref f), some (.int 255), u, v] ∧ Ext σ υ ∧ υ f = some (iL L) ∧ L.length = k ∧ k ≤ l.length ∧ Lo L ∧ 2 ^ s * val L + gt l 0 % 2 ^ s = val (l.take k) + 256 ^ k * (gt l k % 2 ^ s)) (Bn ([]) none none rfl hf3 hf4 rfl ⟨Nat.zero_le _, Lo.nil, by simp [val]⟩) (fun _ _ _ _ => trivial) ?_ ?_
 ·(refine fun k _ υ it => Bm fun L u v zq0 he hL zq1 zq2 => ?_; subst zq0; subst zq1; refine zAA zq2 fun hk lo hv => ?_; refine fun hit => ?_)
  (refine zA (Bx hit) fun zq0 hb => ?_; subst zq0)
  have b1 := B7 n1.1 L.length
  have b2 := B7 n1.1 (L.length + 1)
  refine iEA _ (he _ _ h1) ?_
  conv => whnf
  refine Hj (P := (fun v τ => υ = τ ∧ v = .int (gt l (L.length + 1)))) (F := fun N => (decide _ = true → wpE _ _ _ _ _ N) ∧ (decide _ = false → wpE _ _ _ _ _ N)) ?_ ?_
  ·intro N hN
   refine ⟨fun e => ?_, fun e => ?_⟩
   ·have e := of_decide_eq_true e
    simp only [List.length_map] at e
    refine ix (he _ _ h1) (L.length + 1) (ln 0x221b0ae1b0e0baa80 [L.length]) (ln 0x22211b0a11e1b0e0baa71 [L.length, l.length] e) ?_
    exact hN _ _ ⟨rfl, rfl⟩
   ·have e := of_decide_eq_false e
    simp only [List.length_map] at e
    refine hN _ _ ⟨rfl, ?_⟩
    rw [Kk (by exact ln 0x2221b1a000e1b1e0baaa1 [l.length, L.length] e)]
  ·(refine fun _ _ => yA fun zq0 zq1 => ?_; subst zq0; subst zq1)
   refine And.intro (⟨_, hL⟩) (?_)
   refine ix (he _ _ h1) L.length (o2) (o10 hb) ?_
   refine And.intro (ln 0x220e0b60 [s]) (?_)
   refine And.intro (⟨ln 0x2220e8bc0b68b011 [s] hs, ?_⟩) (?_)
   ·have : bitsI (gt l (L.length + 1)) ≤ 64 := Ce (by lia) (by lia)
    show (bitsI (gt l (L.length + 1)) : Int) + (8 - s) ≤ 67108864
    exact ln 0x22240000007fb1e8bc0ea6402fb001 [bitsI (gt l (L.length + 1)), s] this
   refine iEA _ ⟨hf1, hL, by simp; show L.length < 16777216; exact ln 0x2222210000007fb012e0e0ba71207ffff86fb123 [L.length, ML, l.length] hML l1 hb⟩ ?_
   intro υ' hu1 hu2
   refine zAA (Wq hs b1 b2) fun d1 d2 d3 => ?_
   rw [show Int.toNat (8 - (s : Int)) = 8 - s by exact ln 0x2121221028b21a22e8bc0e82 [(8 - (↑s : Int)).toNat, 8 - s, s] (ltn (8 - (↑s : Int)) (ln 0x2220e8bc0b68b011 [s] hs)) (lsc 8 s (ln 0x2228b008b011 [s] hs)), Int.toNat_natCast, d1, Ck] at hu2
   refine And.intro (rfl) (?_)
   refine Bn _ _ _ rfl (he.but hu1 hf2) hu2 (by simp) ⟨o83 hb, lo.snoc d2 d3, ?_⟩
   rw [B9, Cd, Cs]
   have e1 := Int.emod_add_mul_ediv (gt l L.length) (2 ^ s)
   have e2 : (2 : Int) ^ s * 2 ^ (8 - s) = 256 := by
    rw [← Int.pow_add, show s + (8 - s) = 8 by (exact ln 0x12228b10a28b01a21 [s, 8 - s] (lsc 8 s (ln 0x2228b008b011 [s] hs)))]; rfl
   generalize gt l L.length / 2 ^ s = q at *
   generalize gt l L.length % 2 ^ s = r at *
   generalize gt l (L.length + 1) % 2 ^ s = r2 at *
   generalize (2 : Int) ^ s = p at *
   generalize (2 : Int) ^ (8 - s) = p2 at *
   have h3 : 256 ^ L.length * (r + p * q) = 256 ^ L.length * gt l L.length := by rw [e1]
   have h4 : 256 ^ L.length * (r2 * (p * p2)) = 256 ^ L.length * (r2 * 256) := by rw [e2]
   grind
 ·(refine fun _ υ => Bm fun L u v zq0 he hL hLl zq1 => ?_; subst zq0; refine zAA zq1 fun hk lo hv => ?_)
  rw [Bp] at hLl hv
  rw [show ((l.length : Int) - 0).toNat = l.length by rfl] at hLl hv
  rw [By (Nat.le_refl _), Kk (Nat.le_refl _)] at hv
  have r0 := Int.emod_nonneg (gt l 0) (Int.ne_of_gt hp)
  have r1 := Int.emod_lt_of_pos (gt l 0) hp
  obtain ⟨q1, q2⟩ := Ep (q := val L) (x := val l) r0 r1 (by
   rw [Int.zero_emod] at hv
   rw [Int.mul_comm]; exact lz 0x1222210a83092a10a81 [2 ^ s * val L, gt l 0 % 2 ^ s, val l, 256 ^ l.length] hv)
  refine Eu G hL lo fun r σ' hr1 hr2 hr3 hr4 => ?_
  rw [q1] at hr4
  exact hQ r σ' hr1 (he.none hr2) (he.trans hr3) hr4
include G in
theorem cB {a : Addr} {t : Int} {σ : Aa} {Q : V → Aa → Prop} (ha : σ a = some (iL [t])) (hQ : Q (.int (bitsI t)) σ) : CC prog w h0 (n + 1) (.ref 121) [.ref a, .int 8] σ Q := by
 refine enter G [some (.ref a), some (.int 8)] (Zz _) rfl rfl ?_
 refine iEA _ ha ?_
 refine And.intro (fun _ => ?_) (fun e => absurd (of_decide_eq_false e) (by simp))
 refine iEA _ ha ?_
 refine And.intro (.inr (.inl (Ce (by decide) (by decide)))) (?_)
 refine Ix _ 0 (.int t) ⟨.inl ha, .inr (by simp), rfl⟩ ?_
 conv => whnf
 simpa using hQ
include G in
theorem Kr {a b : Addr} {x d : Int} {σ : Aa} {Q : V → Aa → Prop} (ha : IsN σ a x) (hx : x < 256 ^ ML) (hb : σ b = some (iL [d])) (hd0 : 0 < d) (hd : d < 256)
  (hQ : ∀ t r u σ', Bs h0 t → σ t = none → σ r = none → σ u = none → Ext σ σ' → σ' t = some (.tup [.ref r, .ref u]) → IsN σ' r (x / d) → IsN σ' u (x % d) → Q (.ref t) σ') : CC prog w h0 (n + 3) (.ref 322) [.ref a, .ref b, .int 8] σ Q := by
 refine enter G [some (.ref a), some (.ref b), some (.int 8), none, none] (Jg _) rfl rfl ?_
 refine ix hb 0 rfl (by simp) ?_
 refine Lq G ha hx hd0 hd fun t r σ1 t1 t2 tr t3 t4 t5 => ?_
 refine iEA _ ⟨t4, rfl⟩ ?_
 have m0 := Int.emod_nonneg x (Int.ne_of_gt hd0)
 have m1 := Int.emod_lt_of_pos x hd0
 conv => whnf
 have fin : ∀ u σ2, σ1 u = none → Ext σ1 σ2 → IsN σ2 u (x % d) → Co (Bs h0) (.tup [.ref r, .ref u]) σ2 Q := fun u σ2 hu e2 i2 => by
  intro t' σ3 q1 q2 q3 q4
  exact hQ t' r u σ3 q1 ((t3.trans e2).none q2) tr (t3.none hu) ((t3.trans e2).trans q3) q4 (t5.ext (e2.trans q3)) (i2.ext q3)
 refine ⟨fun e => ?_, fun e => ?_⟩
 ·have e : 0 < x % d := of_decide_eq_true e
  conv => whnf
  intro u σ2 u1 u2 u3 u4
  exact fin u σ2 u2 u3 (Ay ([x % d]) u4 ⟨Lo.one m0 (lz 0x22221003fb071071003fb172 [x % d, d] hd m1), .inr (by show x % d ≠ 0; exact lz 0x2220b0b00b71 [x % d] e)⟩ (by simp [val]))
 ·have e : ¬ 0 < x % d := of_decide_eq_false e
  conv => whnf
  intro u σ2 u1 u2 u3 u4
  exact fin u σ2 u2 u3 (Ay ([]) u4 Nrm.nil (by simp [val]; exact lz 0x20202200b800ba00b62 [x % d] m0 e))
end
theorem Eo {l : List Int} {k : Nat} {it : List V} (h : (Iz (l.map V.int))[k]? = some it) : k < l.length ∧ it = [.int k, .int (gt l k)] := by
 unfold Iz at h
 rw [List.getElem?_mapIdx] at h
 rcases Nat.lt_or_ge k l.length with q | q
 ·rw [List.getElem?_map, Bg q] at h
  cases h; exact ⟨q, rfl⟩
 ·rw [List.getElem?_eq_none (by simpa using q)] at h; cases h
theorem D8 {l : List V} : (Iz l).length = l.length := by unfold Iz; simp
section
variable {h0 : Heap} {prog : Program} {w : World} {mg mb : Str → Option Value} (G : Gd (KK w) h0 mg mb) {n : Nat}
include G in
theorem Ng {a b : Addr} {x y : Int} {σ : Aa} {Q : V → Aa → Prop} (ha : IsN σ a x) (hb : IsN σ b y) (hx : x < 256 ^ ML) (hy : y < 256 ^ ML)
  (hQ : ∀ r σ', Bs h0 r → σ r = none → Ext σ σ' → IsN σ' r (x * y) → Q (.ref r) σ') : CC prog w h0 (n + 2) (.ref 315) [.ref a, .ref b, .int 8] σ Q := by
 have hML := Ch
 (refine A6 ha fun l h1 n1 zq0 => ?_; subst zq0)
 have l1 := n1.len_le hx
 (refine A6 hb fun m h2 n2 zq0 => ?_; subst zq0)
 have l2 := n2.len_le hy
 refine enter G [some (.ref a), some (.ref b), some (.int 8), none, none, none, none, none, none, none] (Ly _) rfl rfl ?_
 conv => whnf
 intro z τ hz1 hz2 hz3 hz4
 refine iEA _ (hz3 _ _ h1) ?_
 refine iEA _ (hz3 _ _ h2) ?_
 conv => whnf
 simp only [List.length_map]
 refine iEA (.int 0) ⟨hz4, ln 0x221e0ea0b60 [l.length, m.length], by show _ ≤ (16777216 : Int); exact ln 0x2224210000007fb1e0ea62102007ffff86fb223 [l.length, m.length, ML] hML l1 l2⟩ ?_
 intro f τ' hf1 hf2 hf3 hf4
 replace hf2 := hz3.none hf2
 replace hf3 := hz3.trans hf3
 rw [Jo, show ((l.length : Int) + m.length).toNat = l.length + m.length by rfl] at hf4
 refine And.intro (⟨by decide, by decide⟩) (?_)
 refine iEA _ (hf3 _ _ h1) ?_
 refine Ar (fun k ρ υ => ∃ F u1 u2 u3 u4 u5, ρ = [some (.ref a), some (.ref b), some (.int 8), some (.ref f), some (.int 255), u1, u2, u3, u4, u5] ∧ Ext σ υ ∧ υ f = some (iL F) ∧ F.length = l.length + m.length ∧ k ≤ l.length ∧ Lo F ∧ (∀ i, k + m.length ≤ i → gt F i = 0) ∧ val F = val (l.take k) * val m) (Du _ none none none none none ⟨rfl, hf3, hf4, by simp, Nat.zero_le _, Lo.rep, fun i _ => ?_, by simp [val, Dt]⟩) ?_ ?_ ?_
 ·rcases Nat.lt_or_ge i (l.length + m.length) with q | q
  ·exact Wi q
  ·exact Kk (by simpa using q)
 ·(refine fun k _ υ => Ey fun F u1 u2 u3 u4 u5 zq0 => ?_; refine zAA zq0 fun zq1 he _ => ?_; subst zq1)
  exact he _ _ h1
 ·(refine fun k _ υ it => Ey fun F u1 u2 u3 u4 u5 zq0 => ?_; refine Dy zq0 fun zq1 he hF hFl hk lo hz hv => ?_; subst zq1; refine fun hit => ?_)
  (refine zA (Eo hit) fun hkl zq0 => ?_; subst zq0)
  have b1 := B7 n1.1 k
  refine iEA _ (he _ _ h2) ?_
  refine Ar (fun j ρ υ => ∃ c F' u4 u5, ρ = [some (.ref a), some (.ref b), some (.int 8), some (.ref f), some (.int 255), some (.int k), some (.int (gt l k)), some (.int c), u4, u5] ∧ Ext σ υ ∧ υ f = some (iL F') ∧ F'.length = l.length + m.length ∧ j ≤ m.length ∧ Lo F' ∧ 0 ≤ c ∧ c < 256 ∧ (∀ i, k + j ≤ i → gt F' i = gt F i) ∧ val F' + 256 ^ (k + j) * c = val F + 256 ^ k * gt l k * val (m.take j)) (Bb 0 F _ _ rfl he hF hFl (Nat.zero_le _) lo (Int.le_refl _) (by decide) (fun _ _ => rfl) (by simp [val])) ?_ ?_ ?_
  ·(refine fun j _ υ => D0 fun c F' u4 u5 zq0 => ?_; refine zAA zq0 fun zq1 he _ => ?_; subst zq1)
   exact he _ _ h2
  ·(refine fun j _ υ it => D0 fun c F' u4 u5 zq0 => ?_; refine Cc zq0 fun zq1 he hF hFl hj lo c0 c1 hi hv => ?_; subst zq1; refine fun hit => ?_)
   (refine zA (Eo hit) fun hjl zq0 => ?_; subst zq0)
   have b2 := B7 n2.1 j
   have b3 := B7 lo (k + j)
   refine ix hF (k + j) (o6) (o91 ‹_› hkl hFl hjl) ?_
   refine And.intro (B4 (by lia) (by lia)) (?_)
   have g0 : 0 ≤ gt l k * gt m j := Int.mul_nonneg b1.1 b2.1
   have g1 : gt l k * gt m j ≤ 255 * 255 := Int.mul_le_mul (o36 b1) (o36 b2) b2.1 (by decide)
   refine stx hf1 hF (k + j) (o6) (o91 ‹_› hkl hFl hjl) fun υ' hu1 hu2 => ?_
   rw [C1 (by exact lz 0x2222221a0a0b620b610b600b63 [c, gt F' (k + j), gt l k * gt m j] c0 b3.1 g0)] at hu2
   refine And.intro (by decide) (?_)
   rw [P8]
   refine Bb _ _ _ _ rfl (he.but hu1 hf2) hu2 (by simp [hFl]) ‹_› (lo.set (lz 0x22200b600b61 [(c + (gt F' (k + j) + gt l k * gt m j)) % 256] (Int.emod_nonneg (b := 256) (c + (gt F' (k + j) + gt l k * gt m j)) (by decide))) (lz 0x2221003fb071003fb071 [(c + (gt F' (k + j) + gt l k * gt m j)) % 256] (Int.emod_lt_of_pos (b := 256) (c + (gt F' (k + j) + gt l k * gt m j)) (by decide)))) (lz 0x2122222003f00b632a1a401003f8a81003fb4730b620b610b65 [(c + (gt F' (k + j) + gt l k * gt m j)) / 256, c, gt F' (k + j), gt l k * gt m j, (c + (gt F' (k + j) + gt l k * gt m j)) % 256] c0 b3.1 g0 (Int.emod_lt_of_pos (b := 256) (c + (gt F' (k + j) + gt l k * gt m j)) (by decide)) (Int.mul_ediv_add_emod (c + (gt F' (k + j) + gt l k * gt m j)) 256)) (lz 0x2222222003f1003fb0732a1a401003f8a840b6ff2fbff2f8361003fb271003fb175 [(c + (gt F' (k + j) + gt l k * gt m j)) / 256, c, gt F' (k + j), gt l k * gt m j, (c + (gt F' (k + j) + gt l k * gt m j)) % 256] c1 b3.2 g1 (Int.emod_nonneg (b := 256) (c + (gt F' (k + j) + gt l k * gt m j)) (by decide)) (Int.mul_ediv_add_emod (c + (gt F' (k + j) + gt l k * gt m j)) 256)) (fun i hi2 => ?_) ?_
   ·rw [Cq (by exact ln 0x221210a521b1a0a01 [k, j, i] hi2)]; exact hi i (by exact ln 0x222210a021b1a0a01 [k, j, i] hi2)
   ·rw [Ez (o91 ‹_› hkl hFl hjl), Cd, show k + (j + 1) = k + j + 1 by rfl, Cs, Int.pow_add] at *
    have e1 := Int.emod_add_mul_ediv (c + (gt F' (k + j) + gt l k * gt m j)) 256
    generalize (c + (gt F' (k + j) + gt l k * gt m j)) / 256 = q at *
    generalize (c + (gt F' (k + j) + gt l k * gt m j)) % 256 = r at *
    have : (256 : Int) ^ k * 256 ^ j * (r + 256 * q) = 256 ^ k * 256 ^ j * (c + (gt F' (k + j) + gt l k * gt m j)) := by rw [e1]
    grind
  ·(refine fun _ υ => D0 fun c F' u4 u5 zq0 => ?_; refine Cc zq0 fun zq1 he hF hFl hj lo c0 c1 hi hv2 => ?_; subst zq1)
   rw [D8, List.length_map] at hv2 hi
   rw [By (Nat.le_refl _)] at hv2
   refine iEA _ (he _ _ h2) ?_
   conv => whnf
   simp only [List.length_map]
   refine stx hf1 hF (k + m.length) (o6) (ln 0x2122210a113a223012 [k, m.length, F'.length, l.length] hkl hFl) fun υ' hu1 hu2 => ?_
   conv => whnf
   have z0 : gt F' (k + m.length) = 0 := by rw [hi _ (Nat.le_refl _)]; exact hz _ (Nat.le_refl _)
   refine Du _ _ _ _ _ _ ⟨rfl, he.but hu1 hf2, hu2, by simp [hFl], by assumption, lo.set c0 c1, fun i hi2 => ?_, ?_⟩
   ·rw [Cq (by exact ln 0x221210a5211b0aa01 [k, m.length, i] hi2), hi i (by exact ln 0x222210a0211b0aa01 [k, m.length, i] hi2)]; exact hz i (by exact ln 0x222210a0211b0aa01 [k, m.length, i] hi2)
   ·rw [Ez (by exact ln 0x2122210a113a223012 [k, m.length, F'.length, l.length] hkl hFl), z0, Cd]
    rw [hv] at hv2
    grind
 ·(refine fun _ υ => Ey fun F u1 u2 u3 u4 u5 zq0 => ?_; refine Dy zq0 fun zq1 he hF hFl hk lo hz hv => ?_; subst zq1)
  rw [D8, List.length_map, By (Nat.le_refl _)] at hv
  refine Eu G hF lo fun r σ' hr1 hr2 hr3 hr4 => ?_
  rw [hv] at hr4
  exact hQ r σ' hr1 (he.none hr2) (he.trans hr3) hr4
include G in
theorem T7 {t : Addr} {t0 t1 t2 f1 f2 : Int} {σ : Aa} {Q : V → Aa → Prop} (ht : σ t = some (iL [t0, t1, t2])) (h0' : 0 ≤ t0 ∧ t0 < 256) (h1' : 0 ≤ t1 ∧ t1 < 256) (h2' : 0 ≤ t2 ∧ t2 < 256) (hf : 0 < f1 ∧ f1 < 256) (hf2 : 0 ≤ f2 ∧ f2 < 256)
  (hQ : ∀ g, 0 ≤ g → g ≤ 255 → (∀ q, 0 ≤ q → q ≤ 255 → q * (f1 * 256 + f2) ≤ t2 * 65536 + t1 * 256 + t0 → q ≤ g) → (g * f1 + 256 ≤ t2 * 256 + t1 ∨ g * (f1 * 256 + f2) ≤ t2 * 65536 + t1 * 256 + t0) → Q (.int g) σ) :
  CC prog w h0 (n + 1) (.ref 329) [.ref t, .int f1, .int f2, .int 8] σ Q := by
 refine enter G [some (.ref t), some (.int f1), some (.int f2), some (.int 8), none, none, none, none] (Jf _) rfl rfl ?_
 refine ix ht 2 rfl (by simp) ?_
 rw [show gt [t0, t1, t2] 2 = t2 from rfl]
 refine And.intro (⟨by decide, ?_⟩) (?_)
 ·have : bitsI t2 ≤ 64 := Ce (by lia) (by lia)
  show (bitsI t2 : Int) + 8 ≤ 67108864
  exact o87 this
 refine ix ht 1 rfl (by simp) ?_
 rw [show gt [t0, t1, t2] 1 = t1 from rfl]
 conv => whnf
 rw [show Int.toNat 8 = 8 from rfl, Kd h2'.1 h1'.1 (by show _ < (256 : Int); exact o88 h1')]
 refine ⟨⟨by decide, by decide⟩, ?_⟩
 refine And.intro (⟨lz 0x2220b0b00b71 [f1] hf.1, lq 0x2222400000008fb0100e81003fb072 [f1.natAbs] [f1] hf.2 (lnn f1 (lz 0x22200b600b71 [f1] hf.1))⟩) (?_)
 refine And.intro (B4 ?_ ?_) (?_)
 ·rw [Cn (o37 hf)]
  have : 0 ≤ (t2 * 2 ^ 8 + t1) / f1 := Int.ediv_nonneg (by lia) (o37 hf)
  show _ < min _ (256 - 1 : Int)
  omega
 ·show min _ (256 - 1 : Int) < _
  omega
 conv => whnf
 rw [Cn (o37 hf)]
 have e8 : t2 * 2 ^ 8 + t1 = t2 * 256 + t1 := rfl
 rw [e8]
 have hd0 : 0 ≤ (t2 * 256 + t1) / f1 := Int.ediv_nonneg (lz 0x22003f22101003f9a0b600b610b62 [t2, t1] h1'.1 h2'.1) (o37 hf)
 have hd1 : (t2 * 256 + t1) / f1 * f1 ≤ t2 * 256 + t1 := Int.ediv_mul_le _ (lz 0x2220b0b00b71 [f1] hf.1)
 generalize hg0 : min ((t2 * 256 + t1) / f1) ((1 : Int) * 2 ^ 8 - 1) = g0
 have e255 : (1 : Int) * 2 ^ 8 - 1 = 255 := rfl
 rw [e255] at hg0
 have g0a : 0 ≤ g0 := by lia
 have g0b : g0 ≤ 255 := by omega
 have g0c : g0 * f1 ≤ t2 * 256 + t1 := by
  have := Int.mul_le_mul_of_nonneg_right (show g0 ≤ (t2 * 256 + t1) / f1 by lia) (show 0 ≤ f1 by exact o37 hf)
  exact lz 0x2222211003f9a06306211003f9a362 [g0 * f1, t2, t1, (t2 * 256 + t1) / f1 * f1] hd1 this
 have g0d : ∀ q, 0 ≤ q → q ≤ 255 → q * (f1 * 256 + f2) ≤ t2 * 65536 + t1 * 256 + t0 → q ≤ g0 := fun q q0 q1 hq => by
  have a1 : 0 ≤ q * f2 := Int.mul_nonneg q0 hf2.1
  have a2 : q * (f1 * 256 + f2) = q * f1 * 256 + q * f2 := by grind
  have a3 : q * f1 ≤ t2 * 256 + t1 := by exact lz 0x212222003f211003f9a06501003f9a4850b6321003f91100005f9aa461003fb374 [q * f1, t2, t1, t0, q * (f1 * 256 + f2), q * f2] h0'.2 hq a1 a2
  have := (Int.le_ediv_iff_mul_le hf.1).mpr a3
  lia
 refine Ba (fun m ρ υ => σ = υ ∧ ∃ g r, ρ = [some (.ref t), some (.int f1), some (.int f2), some (.int 8), some (.int (t2 * 256 + t1)), some (.int 256), some (.int g), some (.int r)] ∧ 0 ≤ g ∧ g ≤ 255 ∧ r = t2 * 256 + t1 - g * f1 ∧ 0 ≤ r ∧ m = (256 - r).toNat ∧ (∀ q, 0 ≤ q → q ≤ 255 → q * (f1 * 256 + f2) ≤ t2 * 65536 + t1 * 256 + t0 → q ≤ g)) (fun ρ υ => σ = υ ∧ ∃ g r, ρ = [some (.ref t), some (.int f1), some (.int f2), some (.int 8), some (.int (t2 * 256 + t1)), some (.int 256), some (.int g), some (.int r)] ∧ Q (.int g) σ) (iEA _ rfl (Fa g0 (t2 * 256 + t1 - g0 * f1) rfl g0a g0b rfl ⟨lz 0x2222101003f9ac0b6101003f9a261 [t2, t1, g0 * f1] g0c, rfl, g0d⟩)) ?_ ?_
 ·rintro m _ _ ⟨rfl, g, r, rfl, ga, gb, hr, r0, rfl, hq⟩
  refine And.intro (fun e => ?_) (fun e => ?_)
  ·have e := of_decide_eq_true e
   refine And.intro (B4 (by lia) (by lia)) (?_)
   refine And.intro (⟨by decide, ?_⟩) (?_)
   ·have : bitsI r ≤ 64 := Ce (by lia) (by lia)
    show (bitsI r : Int) + 8 ≤ 67108864
    exact o87 this
   refine ix ht 0 rfl (by simp) ?_
   rw [show gt [t0, t1, t2] 0 = t0 from rfl]
   conv => whnf
   rw [show Int.toNat 8 = 8 from rfl, Kd r0 h0'.1 (by show _ < (256 : Int); exact o88 h0')]
   have e8 : r * 2 ^ 8 + t0 = r * 256 + t0 := rfl
   rw [e8]
   have e3 : g * (f1 * 256 + f2) = g * f1 * 256 + g * f2 := by grind
   refine ⟨fun e2 => ?_, fun e2 => ?_⟩
   ·have e2 := of_decide_eq_true e2
    have gp : 0 < g := by
     rcases Int.lt_or_eq_of_le ga with q | q
     ·exact q
     ·subst q; exact lz 0x222003f200b0b7208011003f9a710b600b63 [t0, r, f2] h0'.1 r0 e2
    refine Ay ((256 - (r + f1)).toNat) (fM hf r0 e) rfl (Fa (g - 1) (r + f1) rfl (lz 0x2221b0c0b600b71 [g] gp) (lz 0x222ff2fb1b0c6ff2fb061 [g] gb) (by grind) ⟨lz 0x222210a0b600b610b72 [r, f1] hf.1 r0, rfl, fun q q0 q1 hq' => ?_⟩)
    have a1 := hq q q0 q1 hq'
    rcases Int.lt_or_eq_of_le a1 with z | z
    ·exact lz 0x2221b1c061071 [q, g] z
    ·subst z; exact lz 0x2211ff3f201b0c067451003f9a7761003f9a186321003f9ac58431003f92100005f9aa164 [q, q * (f1 * 256 + f2), t2, t1, t0, r, q * f1, q * f2] hq' hr e3 e2
   ·have e2 := of_decide_eq_false e2
    exact ⟨rfl, C5 g r rfl (hQ g ga gb hq (.inr (lz 0x2222003f2321003f91100005f9aa066341003f9aa651003f9a085211003f9ac483 [g * (f1 * 256 + f2), t2, t1, t0, r, g * f1, g * f2] hr e3 e2)))⟩
  ·have e := of_decide_eq_false e
   exact ⟨nofun, fun _ => ⟨rfl, C5 g r rfl (hQ g ga gb hq (.inl (lz 0x2222211003f9a1003fb0a61003fb3a0211003f9ac382 [g * f1, t2, t1, r] hr e)))⟩⟩
 ·rintro _ _ ⟨rfl, g, r, rfl, hq⟩
  exact hq
include G in
theorem O1 {a b : Addr} {F m : List Int} {g : Int} {p : Nat} {σ : Aa} {Q : V → Aa → Prop} (hB : Bs h0 a) (ha : σ a = some (iL F)) (hb : σ b = some (iL m)) (hab : b ≠ a) (lF : Lo F) (lm : Lo m) (hF : F.length ≤ ML) (g0 : 0 ≤ g) (g1 : g ≤ 255) (hp : p + m.length < F.length)
  (hQ : ∀ e F' σ', Ag a σ σ' → σ' a = some (iL F') → F'.length = F.length → Lo F' → (e = 0 ∨ e = 1) → (∀ i, i < p ∨ p + m.length < i → gt F' i = gt F i) → val F' = val F - 256 ^ p * g * val m + 256 ^ (p + m.length) * 256 * e → Q (.int e) σ') :
  CC prog w h0 (n + 1) (.ref 336) [.ref a, .ref b, .int g, .int p, .int 8] σ Q := by
 have hML := Ch
 refine enter G [some (.ref a), some (.ref b), some (.int g), some (.int p), some (.int 8), none, none, none, none, none] (Nt _) rfl rfl ?_
 refine And.intro (⟨by decide, by decide⟩) (?_)
 refine iEA _ hb ?_
 have eb : ∀ {υ}, Ag a σ υ → υ b = some (iL m) := fun e => e _ _ hab hb
 refine Ar (fun j ρ υ => ∃ c F' u1 u2 u3, ρ = [some (.ref a), some (.ref b), some (.int g), some (.int p), some (.int 8), some (.int c), some (.int 256), u1, u2, u3] ∧ Ag a σ υ ∧ υ a = some (iL F') ∧ F'.length = F.length ∧ j ≤ m.length ∧ Lo F' ∧ 0 ≤ c ∧ c ≤ 256 ∧ (∀ i, i < p ∨ p + j ≤ i → gt F' i = gt F i) ∧ val F' - 256 ^ (p + j) * c = val F - 256 ^ p * g * val (m.take j)) (E8 0 F none none none ⟨rfl, fun _ _ _ e => e, ha, rfl, Nat.zero_le _, lF, Int.le_refl _, by decide, fun _ _ => rfl, by simp [val]⟩) ?_ ?_ ?_
 ·(refine fun j _ υ => Jy fun c F' u1 u2 u3 zq0 => ?_; refine zAA zq0 fun zq1 he _ => ?_; subst zq1)
  exact eb he
 ·(refine fun j _ υ it => Jy fun c F' u1 u2 u3 zq0 => ?_; refine Cc zq0 fun zq1 he hF' hFl hj lo c0 c1 hi hv => ?_; subst zq1; refine fun hit => ?_)
  (refine zA (Eo hit) fun hjl zq0 => ?_; subst zq0)
  have b2 := B7 lm j
  have b3 := B7 lo (p + j)
  have m0 : 0 ≤ g * gt m j := Int.mul_nonneg g0 b2.1
  have m1 : g * gt m j ≤ 255 * 255 := Int.mul_le_mul g1 (o36 b2) b2.1 (by decide)
  refine ix hF' (p + j) (o6) (o25 hp hFl hjl) ?_
  refine And.intro (B4 (by lia) (by lia)) (?_)
  refine And.intro (by decide) (?_)
  refine And.intro (B4 (by omega) (by omega)) (?_)
  refine And.intro (⟨by decide, by decide⟩) (?_)
  conv => whnf
  rw [Ct (by decide), Cn (by decide)]
  generalize hq : (g * gt m j + c) / 256 = q
  generalize hr : (g * gt m j + c) % 256 = r
  have e1 := Int.emod_add_mul_ediv (g * gt m j + c) 256
  rw [hq, hr] at e1
  generalize hh : gt F' (p + j) - r = here
  refine Hj (P := (fun v τ => υ = τ ∧ v = .int (if here < 0 then 1 else 0))) (F := fun N => (decide _ = true → wpE _ _ _ _ _ N) ∧ (decide _ = false → wpE _ _ _ _ _ N)) ?_ ?_
  ·intro N hN
   refine ⟨fun e => ?_, fun e => ?_⟩
   ·have e := of_decide_eq_true e
    exact hN _ _ ⟨rfl, by rw [if_pos e]⟩
   ·have e := of_decide_eq_false e
    exact hN _ _ ⟨rfl, by rw [if_neg e]⟩
  ·(refine fun _ _ => yA fun zq0 zq1 => ?_; subst zq0; subst zq1)
   conv => whnf
   refine Hj (P := (fun v τ => υ = τ ∧ v = .int (if here < 0 then here + 256 else here))) (F := fun N => (decide _ = true → wpE _ _ _ _ _ N) ∧ (decide _ = false → wpE _ _ _ _ _ N)) ?_ ?_
   ·intro N hN
    refine ⟨fun e => ?_, fun e => ?_⟩
    ·have e := of_decide_eq_true e
     exact hN _ _ ⟨rfl, by rw [if_pos e]⟩
    ·have e := of_decide_eq_false e
     exact hN _ _ ⟨rfl, by rw [if_neg e]⟩
   ·(refine fun _ _ => yA fun zq0 zq1 => ?_; subst zq0; subst zq1)
    refine stx hB hF' (p + j) (o6) (o25 hp hFl hjl) fun υ' hu1 hu2 => ?_
    refine E8 _ _ _ _ _ ⟨rfl, fun x o hx ho => hu1 x o hx (he x o hx ho), hu2, by simp [hFl], by assumption, lo.set (by split <;> lia) (by split <;> lia), by split <;> lia, by split <;> lia, fun i hi2 => ?_, ?_⟩
    ·rw [Cq (dK hi2)]; exact hi i (dJ hi2)
    ·rw [Ez (o25 hp hFl hjl), Cd, show p + (j + 1) = p + j + 1 by rfl, Cs, Int.pow_add] at *
     have : (256 : Int) ^ p * 256 ^ j * (r + 256 * q) = 256 ^ p * 256 ^ j * (g * gt m j + c) := by rw [e1]
     split <;> grind
 ·(refine fun _ υ => Jy fun c F' u1 u2 u3 zq0 => ?_; refine Cc zq0 fun zq1 he hF' hFl hj lo c0 c1 hi hv => ?_; subst zq1)
  rw [D8, List.length_map] at hv hi
  rw [By (Nat.le_refl _)] at hv
  have b3 := B7 lo (p + m.length)
  refine iEA _ (eb he) ?_
  conv => whnf
  simp only [List.length_map]
  refine ix hF' (p + m.length) (o6) (o26 hp hFl) ?_
  conv => whnf
  generalize hh : gt F' (p + m.length) - c = here
  refine Hj (P := (fun v τ => υ = τ ∧ v = .int (if here < 0 then here + 256 else here))) (F := fun N => (decide _ = true → wpE _ _ _ _ _ N) ∧ (decide _ = false → wpE _ _ _ _ _ N)) ?_ ?_
  ·intro N hN
   refine ⟨fun e => ?_, fun e => ?_⟩
   ·have e := of_decide_eq_true e
    exact hN _ _ ⟨rfl, by rw [if_pos e]⟩
   ·have e := of_decide_eq_false e
    exact hN _ _ ⟨rfl, by rw [if_neg e]⟩
  ·(refine fun _ _ => yA fun zq0 zq1 => ?_; subst zq0; subst zq1)
   refine iEA _ (eb he) ?_
   conv => whnf
   simp only [List.length_map]
   refine stx hB hF' (p + m.length) (o6) (o26 hp hFl) fun υ' hu1 hu2 => ?_
   have fin : ∀ e : Int, e = (if here < 0 then 1 else 0) → Q (.int e) υ' := fun e ee => by
    refine hQ e _ υ' (fun x o hx ho => hu1 x o hx (he x o hx ho)) hu2 (by simp [hFl]) (lo.set (by split <;> lia) (by split <;> lia)) (by subst ee; split <;> simp) (fun i hi2 => ?_) ?_
    ·rw [Cq (by exact Or.elim hi2 (fun zt2 => ln 0x222210a50211 [p, m.length, i] zt2) (fun zt2 => ln 0x221210a5210a11 [p, m.length, i] zt2))]; exact hi i (dI hi2)
    ·rw [Ez (o26 hp hFl)]
     subst ee
     split <;> grind
   refine And.intro (fun e => ?_) (fun e => ?_)
   ·have e := of_decide_eq_true e
    exact fin 1 (by rw [if_pos e])
   ·have e := of_decide_eq_false e
    exact fin 0 (by rw [if_neg e])
include G in
theorem Q6 {a b : Addr} {F m : List Int} {p : Nat} {σ : Aa} {Q : V → Aa → Prop} (hB : Bs h0 a) (ha : σ a = some (iL F)) (hb : σ b = some (iL m)) (hab : b ≠ a) (lF : Lo F) (lm : Lo m) (hF : F.length ≤ ML) (hp : p + m.length < F.length)
  (hQ : ∀ e F' σ', Ag a σ σ' → σ' a = some (iL F') → F'.length = F.length → Lo F' → (e = 0 ∨ e = 1) → (∀ i, i < p ∨ p + m.length < i → gt F' i = gt F i) → val F' = val F + 256 ^ p * val m - 256 ^ (p + m.length) * 256 * e → Q .none σ') :
  CC prog w h0 (n + 1) (.ref 343) [.ref a, .ref b, .int p, .int 8] σ Q := by
 have hML := Ch
 refine enter G [some (.ref a), some (.ref b), some (.int p), some (.int 8), none, none, none, none] (Pb _) rfl rfl ?_
 refine And.intro (⟨by decide, by decide⟩) (?_)
 refine iEA _ hb ?_
 have eb : ∀ {υ}, Ag a σ υ → υ b = some (iL m) := fun e => e _ _ hab hb
 refine Ar (fun j ρ υ => ∃ c F' u1 u2, ρ = [some (.ref a), some (.ref b), some (.int p), some (.int 8), some (.int c), some (.int 255), u1, u2] ∧ Ag a σ υ ∧ υ a = some (iL F') ∧ F'.length = F.length ∧ j ≤ m.length ∧ Lo F' ∧ 0 ≤ c ∧ c ≤ 1 ∧ (∀ i, i < p ∨ p + j ≤ i → gt F' i = gt F i) ∧ val F' + 256 ^ (p + j) * c = val F + 256 ^ p * val (m.take j)) (Bb 0 F none none rfl (fun _ _ _ e => e) ha rfl (Nat.zero_le _) lF (Int.le_refl _) (by decide) (fun _ _ => rfl) (by simp [val])) ?_ ?_ ?_
 ·(refine fun j _ υ => D0 fun c F' u1 u2 zq0 => ?_; refine zAA zq0 fun zq1 he _ => ?_; subst zq1)
  exact eb he
 ·(refine fun j _ υ it => D0 fun c F' u1 u2 zq0 => ?_; refine Cc zq0 fun zq1 he hF' hFl hj lo c0 c1 hi hv => ?_; subst zq1; refine fun hit => ?_)
  (refine zA (Eo hit) fun hjl zq0 => ?_; subst zq0)
  have b2 := B7 lm j
  have b3 := B7 lo (p + j)
  refine ix hF' (p + j) (o6) (o25 hp hFl hjl) ?_
  refine stx hB hF' (p + j) (o6) (o25 hp hFl hjl) fun υ' hu1 hu2 => ?_
  rw [C1 (by exact lz 0x2222221a0a0b610b620b600b63 [c, gt F' (p + j), gt m j] c0 b2.1 b3.1)] at hu2
  refine And.intro (by decide) (?_)
  rw [P8]
  refine Bb _ _ _ _ rfl (fun x o hx ho => hu1 x o hx (he x o hx ho)) hu2 (by simp [hFl]) ‹_› (lo.set (lz 0x22200b600b61 [(c + (gt F' (p + j) + gt m j)) % 256] (Int.emod_nonneg (b := 256) (c + (gt F' (p + j) + gt m j)) (by decide))) (lz 0x2221003fb071003fb071 [(c + (gt F' (p + j) + gt m j)) % 256] (Int.emod_lt_of_pos (b := 256) (c + (gt F' (p + j) + gt m j)) (by decide)))) (lz 0x2122222003f00b623a1a401003f8a81003fb4730b620b610b65 [(c + (gt F' (p + j) + gt m j)) / 256, c, gt m j, gt F' (p + j), (c + (gt F' (p + j) + gt m j)) % 256] c0 b2.1 b3.1 (Int.emod_lt_of_pos (b := 256) (c + (gt F' (p + j) + gt m j)) (by decide)) (Int.mul_ediv_add_emod (c + (gt F' (p + j) + gt m j)) 256)) (lz 0x2222222003f1b0623a1a401003f8a840b61003fb371003fb271b165 [(c + (gt F' (p + j) + gt m j)) / 256, c, gt m j, gt F' (p + j), (c + (gt F' (p + j) + gt m j)) % 256] c1 b2.2 b3.2 (Int.emod_nonneg (b := 256) (c + (gt F' (p + j) + gt m j)) (by decide)) (Int.mul_ediv_add_emod (c + (gt F' (p + j) + gt m j)) 256)) (fun i hi2 => ?_) ?_
  ·rw [Cq (dK hi2)]; exact hi i (dJ hi2)
  ·rw [Ez (o25 hp hFl hjl), Cd, show p + (j + 1) = p + j + 1 by rfl, Cs, Int.pow_add] at *
   have e1 := Int.emod_add_mul_ediv (c + (gt F' (p + j) + gt m j)) 256
   generalize (c + (gt F' (p + j) + gt m j)) / 256 = q at *
   generalize (c + (gt F' (p + j) + gt m j)) % 256 = r at *
   have : (256 : Int) ^ p * 256 ^ j * (r + 256 * q) = 256 ^ p * 256 ^ j * (c + (gt F' (p + j) + gt m j)) := by rw [e1]
   grind
 ·(refine fun _ υ => D0 fun c F' u1 u2 zq0 => ?_; refine Cc zq0 fun zq1 he hF' hFl hj lo c0 c1 hi hv => ?_; subst zq1)
  rw [D8, List.length_map] at hv hi
  rw [By (Nat.le_refl _)] at hv
  have b3 := B7 lo (p + m.length)
  refine iEA _ (eb he) ?_
  conv => whnf
  simp only [List.length_map]
  refine ix hF' (p + m.length) (o6) (o26 hp hFl) ?_
  refine iEA _ (eb he) ?_
  conv => whnf
  simp only [List.length_map]
  refine stx hB hF' (p + m.length) (o6) (o26 hp hFl) fun υ' hu1 hu2 => ?_
  rw [C1 (by exact lz 0x222210a0b600b610b62 [gt F' (p + m.length), c] c0 b3.1)] at hu2
  have e1 := Int.emod_add_mul_ediv (gt F' (p + m.length) + c) 256
  refine hQ ((gt F' (p + m.length) + c) / 256) _ υ' (fun x o hx ho => hu1 x o hx (he x o hx ho)) hu2 (by simp [hFl]) (lo.set (o84) (o85)) (fL c0 c1 b3) (fun i hi2 => ?_) ?_
  ·rw [Cq (by exact Or.elim hi2 (fun zt2 => ln 0x222210a50211 [p, m.length, i] zt2) (fun zt2 => ln 0x221210a5210a11 [p, m.length, i] zt2))]; exact hi i (dI hi2)
  ·rw [Ez (o26 hp hFl)]
   generalize (gt F' (p + m.length) + c) / 256 = q at *
   generalize (gt F' (p + m.length) + c) % 256 = r at *
   have : (256 : Int) ^ (p + m.length) * (r + 256 * q) = 256 ^ (p + m.length) * (gt F' (p + m.length) + c) := by rw [e1]
   grind
end
theorem Zc {W M P T3 hi t0 f1 f2 ml wl g : Int} (hP : 0 < P) (hW : W = wl + P * T3) (hwl : 0 ≤ wl ∧ wl < P) (hM : M = ml + P * (f1 * 256 + f2)) (hml : 0 ≤ ml ∧ ml < P) (hT : T3 = hi * 256 + t0) (ht0 : 0 ≤ t0 ∧ t0 < 256) (hhi : 0 ≤ hi)
  (hf1 : 128 ≤ f1) (hf2 : 0 ≤ f2 ∧ f2 < 256) (g0 : 0 ≤ g) (g1 : g ≤ 255) (hq : ∀ q, 0 ≤ q → q ≤ 255 → q * (f1 * 256 + f2) ≤ T3 → q ≤ g) (hg : g * f1 + 256 ≤ hi ∨ g * (f1 * 256 + f2) ≤ T3) (hWM : W < 256 * M) :
  0 ≤ W / M ∧ W / M ≤ 255 ∧ (g = W / M ∨ g = W / M + 1) ∧ 0 ≤ W - W / M * M ∧ W - W / M * M < M := by
 have hF2 : 128 * 256 ≤ f1 * 256 + f2 := by exact lz 0x222003f2101003f9a1003fb802f8610b60802fb62 [f1, f2] hf1 hf2.1
 have hPF : P * (128 * 256) ≤ P * (f1 * 256 + f2) := Int.mul_le_mul_of_nonneg_left hF2 (Int.le_of_lt hP)
 have hMp : 0 < M := by lia
 have hT0 : 0 ≤ T3 := by exact lz 0x22003f21200b610b620b6211003f9a083 [T3, hi, t0] hT ht0.1 hhi
 have hW0 : 0 ≤ W := by have := Int.mul_nonneg (Int.le_of_lt hP) hT0; exact lz 0x2221200b620b610b621a083 [W, wl, P * T3] hW hwl.1 this
 have q0 : 0 ≤ W / M := Int.ediv_nonneg hW0 (Int.le_of_lt hMp)
 have q1 : W / M < 256 := Int.ediv_lt_of_lt_mul hMp hWM
 have q2 : W / M * M ≤ W := Int.ediv_mul_le _ (lz 0x2220b0b00b71 [M] hMp)
 have q3 : W < (W / M + 1) * M := Int.lt_ediv_add_one_mul_self _ hMp
 generalize W / M = q at *
 rw [Int.add_mul, Int.one_mul] at q3
 have q4 : q * M = q * ml + P * (q * (f1 * 256 + f2)) := by rw [hM]; grind
 have q5 : 0 ≤ q * ml := Int.mul_nonneg q0 hml.1
 have q6 : q * (f1 * 256 + f2) ≤ T3 := by
  rcases Int.lt_or_le T3 (q * (f1 * 256 + f2)) with z | z
  ·have := Int.mul_le_mul_of_nonneg_left (show T3 + 1 ≤ q * (f1 * 256 + f2) by assumption) (Int.le_of_lt hP)
   rw [Int.mul_add] at this
   exact False.elim (lz 0x22212220f63192a650b665a4804631721a086 [W, wl, P * T3, P, q * M, q * ml, P * (q * (f1 * 256 + f2))] hW hwl.2 q2 q4 q5 this)
  ·exact z
 have q7 := hq q q0 (lz 0x222ff2fb061003fb071 [q] q1) q6
 have g4 : g * M = g * ml + P * (g * (f1 * 256 + f2)) := by rw [hM]; grind
 have g5 : g * ml ≤ 255 * P := Int.mul_le_mul g1 (lz 0x2221061071 [ml, P] hml.2) hml.1 (lz 0x22ff2fb0b60 [])
 have q8 : g ≤ q + 1 := by
  rcases Int.lt_or_le (q + 1) g with z | z
  ·exfalso
   have z1 : (q + 2) * M ≤ g * M := Int.mul_le_mul_of_nonneg_right (lz 0x22212b0a611b0a71 [q, g] z) (lz 0x22200b600b71 [M] hMp)
   rw [Int.add_mul] at z1
   rcases hg with hg | hg
   ·have a1 := Int.mul_le_mul_of_nonneg_left hg (show 0 ≤ P * 256 by exact lz 0x22003f201003f90b600b71 [P] hP)
    have a2 : P * 256 * (g * f1 + 256) = P * (g * f1 * 256) + P * 65536 := by grind
    have a3 : P * 256 * hi = P * (hi * 256) := by grind
    have a4 : P * (hi * 256) ≤ P * T3 := Int.mul_le_mul_of_nonneg_left (lz 0x2212101003f9620b6201003f9a182 [hi, T3, t0] hT ht0.1) (Int.le_of_lt hP)
    have a5 : P * (g * (f1 * 256 + f2)) = P * (g * f1 * 256) + P * (g * f2) := by grind
    have a6 : g * f2 ≤ 255 * 255 := Int.mul_le_mul g1 (o36 hf2) hf2.1 (by decide)
    have a7 : P * (g * f2) ≤ P * (255 * 255) := Int.mul_le_mul_of_nonneg_left a6 (Int.le_of_lt hP)
    lia
   ·have a1 := Int.mul_le_mul_of_nonneg_left hg (Int.le_of_lt hP)
    lia
  ·exact z
 exact ⟨q0, lz 0x222ff2fb061003fb071 [q] q1, fK q7 q8, lz 0x22210c0b60161 [W, q * M] q2, lz 0x222210c721a071 [W, q * M, M] q3⟩
theorem Ty {F : List Int} {p : Nat} {i j : Int} (hi : i = (p : Int)) (hj : j = (p : Int) + 3) (h : p + 3 ≤ F.length) : cut (F.map V.int) (some i) (some j) = [gt F p, gt F (p + 1), gt F (p + 2)].map .int := by
 subst hi hj
 have e1 : Fk (some (p : Int)) (F.map V.int).length = p := by
  unfold Fk; dsimp only; rw [if_neg (o34), List.length_map, Int.toNat_natCast]; exact ln 0x12221021021 [min p F.length, p] (Nat.min_eq_left (ln 0x22210013b0a01 [p, F.length] h))
 have e2 : Eh (some ((p : Int) + 3)) (F.map V.int).length = p + 3 := by
  unfold Eh; dsimp only; rw [if_neg (by exact ln 0x220b3b0eaa0 [p]), List.length_map]; exact ln 0x1122223b1a023b1ea2e82022 [min ((↑p : Int) + 3).toNat F.length, p, ((↑p : Int) + 3).toNat] (Nat.min_eq_left (ln 0x222210013b2a03b2ea0e82 [((↑p : Int) + 3).toNat, F.length, p] (ltn ((↑p : Int) + 3) (ln 0x223b0ea0b60 [p])) h)) (ltn ((↑p : Int) + 3) (ln 0x223b0ea0b60 [p]))
 rw [cut, e1, e2, ← List.map_drop, ← List.map_take]
 congr 1
 rw [show p + 3 - p = 3 by lia, List.drop_eq_getElem_cons (by lia), List.drop_eq_getElem_cons (by lia), List.drop_eq_getElem_cons ‹_›, Dk, Dk, Dk]
 rfl
theorem Rp {F F' : List Int} {n : Nat} (hl : F'.length = F.length) (h : ∀ i, i < n → gt F' i = gt F i) : F'.take n = F.take n := by
 apply List.ext_getElem (by simp [hl])
 intro i h1 h2
 rw [List.getElem_take, List.getElem_take, Dk, Dk]
 rw [List.length_take] at h1
 exact h i (ln 0x22221011202012 [i, n, min n F'.length] h1 (Nat.min_le_left n F'.length))
theorem Sj {F F' : List Int} {n : Nat} (hl : F'.length = F.length) (h : ∀ i, n ≤ i → gt F' i = gt F i) : F'.drop n = F.drop n := by
 apply List.ext_getElem (by simp [hl])
 intro i h1 h2
 rw [List.getElem_drop, List.getElem_drop, Dk, Dk]
 exact h _ (ln 0x2210a000 [n, i])
theorem Qx {F : List Int} {j s : Nat} (h : Lo F) (hj : j + s ≤ F.length) (hv : val (F.drop j) < 256 ^ s) : val (F.drop (j + s)) = 0 := by
 have h1 := A8 (F.drop j) s (by rw [List.length_drop]; exact ln 0x2122100321a2302a02 [s, F.length - j, j, F.length] hj (lsc F.length j (ln 0x222100120a01 [j, F.length, s] hj)))
 rw [List.drop_drop] at h1
 have h2 := Ap ((h.drop j).take s)
 have h3 := Ap (h.drop (j + s))
 rcases Int.lt_or_eq_of_le h3 with q | q
 ·have := Int.mul_le_mul_of_nonneg_left (show 1 ≤ val (F.drop (j + s)) by assumption) (Int.le_of_lt (Aw s))
  exact lz 0x22120221200b084219630b643a182174 [val (List.drop (j + s) F), val (List.drop j F), 256 ^ s, val (List.take s (List.drop j F)), 256 ^ s * val (List.drop (j + s) F)] hv h1 h2 this
 ·exact q.symm
theorem eU {p s : Nat} {vE vE1 tk dE dE1 g M e : Int} (s1 : vE = tk + 256 ^ p * dE) (s2 : vE1 = tk + 256 ^ p * dE1) (h : vE1 = vE - 256 ^ p * g * M + 256 ^ (p + s) * 256 * e) : dE1 = dE - g * M + 256 ^ s * 256 * e := by
 have pp := Aw p
 have : 256 ^ p * dE1 = 256 ^ p * (dE - g * M + 256 ^ s * 256 * e) := by
  rw [Int.pow_add] at h
  grind
 exact Int.eq_of_mul_eq_mul_left (o4 pp) this
theorem eT {p s : Nat} {vE vE1 tk dE dE1 M e : Int} (s1 : vE = tk + 256 ^ p * dE) (s2 : vE1 = tk + 256 ^ p * dE1) (h : vE1 = vE + 256 ^ p * M - 256 ^ (p + s) * 256 * e) : dE1 = dE + M - 256 ^ s * 256 * e := by
 have pp := Aw p
 have : 256 ^ p * dE1 = 256 ^ p * (dE + M - 256 ^ s * 256 * e) := by
  rw [Int.pow_add] at h
  grind
 exact Int.eq_of_mul_eq_mul_left (o4 pp) this
theorem eS {p : Nat} {vD q M tk dE vE vF : Int} (h : vD * M + vE = vF) (s1 : vE = tk + 256 ^ p * dE) : (vD + 256 ^ p * (q - 0)) * M + (tk + 256 ^ p * (dE - q * M)) = vF := by
 grind
section
variable {h0 : Heap} {prog : Program} {w : World} {mg mb : Str → Option Value} (G : Gd (KK w) h0 mg mb) {n : Nat}
set_option maxHeartbeats 4000000 in
include G in
theorem Lr {a b : Addr} {F m : List Int} {σ : Aa} {Q : V → Aa → Prop} (hB : Bs h0 a) (ha : σ a = some (iL F)) (hb : σ b = some (iL m)) (hab : b ≠ a) (lF : Lo F) (lm : Lo m) (hF : F.length ≤ ML) (hs : 2 ≤ m.length) (hsF : m.length < F.length) (htop : 128 ≤ gt m (m.length - 1))
  (hlow : val (F.drop (F.length - m.length)) < val m)
  (hQ : ∀ f D F' σ', Bs h0 f → σ f = none → Ag a σ σ' → σ' a = some (iL F') → σ' f = some (iL D) → Lo F' → Lo D → F'.length = F.length → D.length ≤ F.length → val D * val m + val F' = val F → val F' < val m → Q (.ref f) σ') :
  CC prog w h0 (n + 2) (.ref 350) [.ref a, .ref b, .int 8] σ Q := by
 have hML := Ch
 generalize hsz : m.length = s at *
 refine enter G [some (.ref a), some (.ref b), some (.int 8), none, none, none, none] (K4 _) rfl rfl ?_
 refine iEA _ hb ?_
 conv => whnf
 intro z τ hz1 hz2 hz3 hz4
 refine iEA _ (hz3 _ _ ha) ?_
 conv => whnf
 simp only [List.length_map, hsz]
 refine iEA (.int 0) ⟨hz4, ln 0x2221e0ec0b60111 [F.length, s] hsF, by show _ ≤ (16777216 : Int); exact ln 0x2222210000007fb1e0ec612b07ffff86fb222003 [F.length, s, ML] hF hML hs⟩ ?_
 intro f τ' hf1 hf2 hf3 hf4
 replace hf2 := hz3.none hf2
 replace hf3 := hz3.trans hf3
 rw [Jo, show ((F.length : Int) - s).toNat = F.length - s by (exact ln 0x212122102231a23e2ec0e82 [((↑F.length : Int) - (↑s : Int)).toNat, F.length - s, F.length, s] (ltn ((↑F.length : Int) - (↑s : Int)) (ln 0x2221e0ec0b60111 [F.length, s] hsF)) (lsc F.length s (ln 0x2221001011 [s, F.length] hsF)))] at hf4
 have hfa : f ≠ a := fun q => by rw [q, ha] at hf2; cases hf2
 refine iEA _ (hf3 _ _ ha) ?_
 conv => whnf
 simp only [List.length_map, hsz]
 refine ⟨⟨by unfold small; lia, by unfold small; lia, by first | rfl | trivial⟩, ?_⟩
 have eb : ∀ {υ}, Ag a σ υ → υ b = some (iL m) := fun e => e _ _ hab hb
 have mlt : val m < 256 ^ s := by rw [← hsz]; exact C7 lm
 refine Ar (fun k ρ υ => ∃ E D u1 u2, ρ = [some (.ref a), some (.ref b), some (.int 8), some (.int s), some (.ref f), u1, u2] ∧ Ag a σ υ ∧ υ a = some (iL E) ∧ υ f = some (iL D) ∧ E.length = F.length ∧ D.length = F.length - s ∧ k ≤ F.length - s ∧ Lo E ∧ Lo D ∧ (∀ i, i < F.length - s - k → gt D i = 0) ∧ val D * val m + val E = val F ∧ val (E.drop (F.length - s - k)) < val m) (Bb F _ none none rfl (fun x o _ e => hf3 x o e) (hf3 _ _ ha) hf4 rfl (by simp) (Nat.zero_le _) lF Lo.rep ⟨fun i hi => Wi (by omega), by rw [Dt]; exact lz 0x2211008a80 [val m, val F], hlow⟩) (fun _ _ _ _ => trivial) ?_ ?_
 ·(refine fun k _ υ it => D0 fun E D u1 u2 zq0 => ?_; refine Cc zq0 fun zq1 he hE hD hEl hDl hk lE lD zq2 => ?_; subst zq1; refine zAA zq2 fun hz0 hv hw => ?_; refine fun hit => ?_)
  (refine zA (Ff hit) fun zq0 hbb => ?_; subst zq0)
  obtain ⟨p, hp⟩ : ∃ p, p = F.length - s - 1 - k := ⟨_, rfl⟩
  have hpI : (F.length : Int) - s - 1 - k = (p : Int) := by exact ln 0x22222111123e2e1b1e0eccc8016a261b5a2524a24324 [F.length, s, k, p, F.length - s - 1 - k, F.length - s - 1, F.length - s] hp (lsc (F.length - s - 1) k (ln 0x221121000e1b3e4eccc1bd7432a221b1a23 [k, F.length - s - 1, F.length - s, s, F.length] (lsc (F.length - s) 1 (ln 0x221201b03e1b1e2eccc1bd7210a22 [F.length - s, s, F.length, k] (lsc F.length s (ln 0x2221002e1b0e1eccc1bd71 [s, F.length, k] hbb)) hbb)) (lsc F.length s (ln 0x2221002e1b0e1eccc1bd71 [s, F.length, k] hbb)) hbb)) (lsc (F.length - s) 1 (ln 0x221201b03e1b1e2eccc1bd7210a22 [F.length - s, s, F.length, k] (lsc F.length s (ln 0x2221002e1b0e1eccc1bd71 [s, F.length, k] hbb)) hbb)) (lsc F.length s (ln 0x2221002e1b0e1eccc1bd71 [s, F.length, k] hbb))
  rw [hpI]
  rw [show F.length - s - k = p + 1 by (exact fJ hEl hp hpI)] at hw hz0
  have hps : p + s < F.length := by exact ln 0x212210a10e3e1b1e2eccc81 [p, s, F.length, k] hpI
  refine iEA _ hE ?_
  intro t υ1 ht1 ht2 ht3 ht4
  rw [Ty (p := p + s - 2) (by exact ln 0x22122e2b1e0eac810a2b2a21 [p, s, p + s - 2] (lsc (p + s) 2 (ln 0x22210a2b012b01 [p, s, F.length, k] hs))) (by exact ln 0x22123b2ea1b1e0eaa810a2b2a21 [p, s, p + s - 2] (lsc (p + s) 2 (ln 0x22210a2b012b01 [p, s, F.length, k] hs))) (by exact ln 0x2211213b0a035a2b0a25e4e1b3e2eccc82123 [p + s - 2, E.length, F.length, s, k, p] hEl hpI (lsc (p + s) 2 (ln 0x22210a2b012b01 [p, s, F.length, k] hs)))] at ht4
  have hft : f ≠ t := fun q => by rw [q, ht2] at hD; cases hD
  have ext1 : Ag a σ υ1 := fun x o hx e => ht3 _ _ (he x o hx e)
  refine ix (eb ext1) (s - 1) (ln 0x22121e1b0ec801b1a21 [s, s - 1] (lsc s 1 (ln 0x22201b002b01 [s] hs))) (ln 0x221210121b0a22122 [s - 1, m.length, s] hsz (lsc s 1 (ln 0x22201b002b01 [s] hs))) ?_
  refine ix (eb ext1) (s - 2) (ln 0x22121e2b0ec802b1a21 [s, s - 2] (lsc s 2 (ln 0x22202b002b01 [s] hs))) (ln 0x221210122b0a22122 [s - 2, m.length, s] hsz (lsc s 2 (ln 0x22202b002b01 [s] hs))) ?_
  conv => whnf
  have d0 := B7 lE (p + s - 2)
  have d1 := B7 lE (p + s - 2 + 1)
  have d2 := B7 lE (p + s - 2 + 2)
  have m1 := B7 lm (s - 1)
  have m2 := B7 lm (s - 2)
  refine T7 G ht4 d0 d1 d2 (by exact ⟨lz 0x22200b70802fb61 [gt m (s - 1)] htop, lz 0x2221003fb071003fb071 [gt m (s - 1)] m1.2⟩) m2 fun g g0 g1 gq gg => ?_
  have w1 := Qx lE (j := p + 1) (s := s) (ln 0x2212211b0aa0310a13222 [p, s, E.length, F.length] hEl hps) (Int.lt_trans hw mlt)
  have w2 := A8 (E.drop p) (s - 2) (by rw [List.length_drop]; exact ln 0x212212100241a252b0a2354a13224 [s - 2, E.length - p, E.length, F.length, p, s] hEl hps (lsc s 2 (ln 0x22202b002b01 [s] hs)) (lsc E.length p (ln 0x211221000e4e1b2e3eccc831222b03 [p, E.length, s, F.length, k] hs hEl hpI)))
  rw [List.drop_drop, show p + (s - 2) = p + s - 2 by exact ln 0x212122210a230a2b2a232b1a22 [p, s - 2, p + s - 2, s] (lsc s 2 (ln 0x22202b002b01 [s] hs)) (lsc (p + s) 2 (ln 0x22210a2b012b01 [p, s, F.length - s - 1 - k] hs)), Bi (l := E) (j := p + s - 2) (ln 0x2221210143a2b0a2243a12123 [p + s - 2, E.length, F.length, p, s] hEl hps (lsc (p + s) 2 (ln 0x22210a2b012b01 [p, s] hs))), Bi (l := E) (j := p + s - 2 + 1) (ln 0x2211211b0a135a2b0a25e4e1b3e2eccc82123 [p + s - 2, E.length, F.length, s, k, p] hEl hpI (lsc (p + s) 2 (ln 0x22210a2b012b01 [p, s, F.length, k] hs))), Bi (l := E) (j := p + s - 2 + 1 + 1) (ln 0x2211211b1b0aa135a2b0a25e4e1b3e2eccc82123 [p + s - 2, E.length, F.length, s, k, p] hEl hpI (lsc (p + s) 2 (ln 0x22210a2b012b01 [p, s, F.length, k] hs))), show p + s - 2 + 1 + 1 + 1 = p + 1 + s by exact ln 0x122221b1aa1b1b1b0aaa221a2b0a21 [p + s - 2, p, s] (lsc (p + s) 2 (ln 0x22210a2b012b01 [p, s, F.length, k] hs)), w1, show p + s - 2 + 1 + 1 = p + s - 2 + 2 from rfl] at w2
  have w3 := Ap ((lE.drop p).take (s - 2))
  have w4 := C7 ((lE.drop p).take (s - 2))
  rw [List.length_take, List.length_drop, Nat.min_eq_left (by exact ln 0x212212100241a252b0a2354a13224 [s - 2, E.length - p, E.length, F.length, p, s] hEl hps (lsc s 2 (ln 0x22202b002b01 [s] hs)) (lsc E.length p (ln 0x211221000e4e1b2e3eccc831222b03 [p, E.length, s, F.length, k] hs hEl hpI)))] at w4
  have v2 := A8 m (s - 2) (ln 0x221210022b0a22122 [s - 2, m.length, s] hsz (lsc s 2 (ln 0x22202b002b01 [s] hs)))
  rw [Bi (l := m) (j := s - 2) (ln 0x221210122b0a22122 [s - 2, m.length, s] hsz (lsc s 2 (ln 0x22202b002b01 [s] hs))), Bi (l := m) (j := s - 2 + 1) (ln 0x221211b0a122b0a22122 [s - 2, m.length, s] hsz (lsc s 2 (ln 0x22202b002b01 [s] hs))), show s - 2 + 1 + 1 = m.length by exact ln 0x12221211b1b0aa222b0a22122 [s - 2, m.length, s] hsz (lsc s 2 (ln 0x22202b002b01 [s] hs)), List.drop_length, show s - 2 + 1 = s - 1 by (exact ln 0x21212211b0a221b1a222b0a22 [s - 2, s - 1, s] (lsc s 2 (ln 0x22202b002b01 [s] hs)) (lsc s 1 (ln 0x22201b002b01 [s] hs)))] at v2
  simp only [val] at v2
  have v3 := Ap (lm.take (s - 2))
  have v4 := C7 (lm.take (s - 2))
  rw [List.length_take, Nat.min_eq_left (by exact ln 0x221210022b0a22122 [s - 2, m.length, s] hsz (lsc s 2 (ln 0x22202b002b01 [s] hs)))] at v4
  have wd := Bi (l := E) (j := p) (ln 0x21121010e4e1b3e2eccc82122 [p, E.length, F.length, s, k] hEl hpI)
  have gp := B7 lE p
  have K := Zc (W := val (E.drop p)) (M := val m) (P := 256 ^ (s - 2)) (T3 := gt E (p + s - 2 + 2) * 65536 + gt E (p + s - 2 + 1) * 256 + gt E (p + s - 2)) (hi := gt E (p + s - 2 + 2) * 256 + gt E (p + s - 2 + 1)) (t0 := gt E (p + s - 2)) (f1 := gt m (s - 1)) (f2 := gt m (s - 2)) (ml := val (m.take (s - 2))) (wl := val ((E.drop p).take (s - 2))) (g := g)
   (Aw _) (by rw [w2]; congr 2; exact lz 0x22011003f92100005f9aa0b1003f82a1003f81a1003f80a80 [gt E (p + s - 2), gt E (p + s - 2 + 1), gt E (p + s - 2 + 2)]) ⟨w3, w4⟩ (by rw [v2]; congr 2; exact lz 0x22011003f9a0b1003f81a1003f80a80 [gt m (s - 2), gt m (s - 1)]) ⟨v3, v4⟩ (lz 0x222101003f9a1003f9a211003f90100005f9aa80 [gt E (p + s - 2 + 2), gt E (p + s - 2 + 1), gt E (p + s - 2)]) d0 (lz 0x22003f22101003f9a0b600b610b62 [gt E (p + s - 2 + 2), gt E (p + s - 2 + 1)] d1.1 d2.1) htop m2 g0 g1 gq gg (lz 0x2222003f211003f8071003fb3721003f83a081273 [val (List.drop p E), val m, val (List.drop (p + 1) E), gt E p] hw wd gp.2)
  refine Dz K fun q0 q1 qg r0 r1 => ?_
  generalize hqq : val (E.drop p) / val m = q at *
  have mpos : 0 < val m := by lia
  refine O1 G hB (ht3 _ _ hE) (eb ext1) hab lE lm (ln 0x22221002021202 [E.length, ML, F.length] hF hEl) g0 g1 (ln 0x22122210a1430a14223123 [p, m.length, E.length, s, F.length] hsz hEl hps) fun e E1 υ2 hx1 hx2 hx3 lE1 he1 hx4 hx5 => ?_
  rw [hsz] at hx4 hx5
  have tk1 : E1.take p = E.take p := Rp hx3 fun i hi => hx4 i (.inl hi)
  have dr1 : E1.drop (p + 1 + s) = E.drop (p + 1 + s) := Sj hx3 fun i hi => hx4 i (.inr (ln 0x222210a1211b0aa01 [p, s, i] hi))
  have s1 := A8 E p (ln 0x21121000e4e1b3e2eccc82122 [p, E.length, F.length, s, k] hEl hpI)
  have s2 := A8 E1 p (ln 0x211121002120e5e1b4e3eccc83223 [p, E1.length, E.length, F.length, s, k] hEl hpI hx3)
  rw [tk1] at s2
  have pp := Aw p
  have hwin1 : val (E1.drop p) = val (E.drop p) - g * val m + 256 ^ s * 256 * e := by
   exact eU s1 s2 hx5
  have hwin2 := Ap (lE1.drop p)
  have hwin3 : val (E1.drop p) < 256 ^ s * 256 := by
   have := A8 (E1.drop p) (s + 1) (by rw [List.length_drop]; exact dH hF hML hs hsF hEl hp hpI hps hx3)
   rw [List.drop_drop, show p + (s + 1) = p + 1 + s by exact o92, dr1, w1] at this
   have h2 := C7 ((lE1.drop p).take (s + 1))
   rw [List.length_take, List.length_drop, Nat.min_eq_left (dH hF hML hs hsF hEl hp hpI hps hx3), Cs] at h2
   exact lz 0x222211003f90711003f9273092a082 [val (List.drop p E1), 256 ^ s, val (List.take (s + 1) (List.drop p E1)), 256 ^ (s + 1)] this h2
  have ext2 : Ag a σ υ2 := fun x o hx ho => hx1 x o hx (ext1 x o hx ho)
  have hD2 : υ2 f = some (iL D) := hx1 _ _ hfa (ht3 _ _ hD)
  have gD := hz0 p (o53)
  have sp := Aw s
  have fin : ∀ (E2 : List Int) (υ3 : Aa) (u1 u2 : Option V), Ag a σ υ3 → υ3 a = some (iL E2) → υ3 f = some (iL (D.set p q)) → E2.length = F.length → Lo E2 → E2.take p = E.take p → val (E2.drop p) = val (E.drop p) - q * val m →
    ∃ E D u1' u2', [some (.ref a), some (.ref b), some (.int 8), some (.int s), some (.ref f), u1, u2] = [some (.ref a), some (.ref b), some (.int 8), some (.int s), some (.ref f), u1', u2'] ∧ Ag a σ υ3 ∧ υ3 a = some (iL E) ∧ υ3 f = some (iL D) ∧ E.length = F.length ∧ D.length = F.length - s ∧ k + 1 ≤ F.length - s ∧ Lo E ∧ Lo D ∧ (∀ i, i < F.length - s - (k + 1) → gt D i = 0) ∧ val D * val m + val E = val F ∧ val (E.drop (F.length - s - (k + 1))) < val m := by
   intro E2 υ3 u1 u2 hy1 hy2 hy3 hy4 hy5 hy6 hy7
   refine Bb E2 (D.set p q) u1 u2 rfl hy1 hy2 hy3 hy4 (by rw [List.length_set, hDl]) (ln 0x211211b0a0231a24e0e1b3e2eccc82 [k, F.length - s, F.length, s, p] hpI (lsc F.length s (ln 0x2221001011 [s, F.length] hsF))) hy5 (lD.set q0 (lz 0x2221003fb07ff2fb061 [q] K.2.1)) ⟨fun i hi => ?_, ?_, ?_⟩
   ·rw [Cq (fH hEl hp hpI hi)]; exact hz0 i (fG hEl hp hpI hi)
   ·have s3 := A8 E2 p (ln 0x21121002120e4e1b3e2eccc82 [p, E2.length, F.length, s, k] hpI hy4)
    rw [hy6, hy7] at s3
    rw [Ez (by exact ln 0x21212101432a2430a12123 [p, D.length, F.length - s, s, F.length] hDl hps (lsc F.length s (ln 0x2221001011 [s, F.length] hsF))), gD, s3]
    exact eS hv s1
   ·rw [show F.length - s - (k + 1) = p by exact ln 0x11122222102235a251b4a0a21e4e1b3e2eccc83 [F.length - s - (k + 1), p, F.length, s, k, F.length - s] hpI (lsc (F.length - s) (k + 1) (ln 0x211211b0a04e0e1b2e3eccc8321a22 [k, F.length - s, s, F.length, p, F.length - s - 1 - k] (lsc F.length s (ln 0x2121002e4e1b0e1eccc81 [s, F.length, p, F.length - s - 1 - k, k] hpI)) hpI)) (lsc F.length s (ln 0x2121002e4e1b0e1eccc81 [s, F.length, p, F.length - s - 1 - k, k] hpI)), hy7]; omega
  refine And.intro (fun ee => ?_) (fun ee => ?_)
  ·have ee : e = 1 := of_decide_eq_true ee
   subst ee
   have hgq : g = q + 1 := by
    rcases qg with z | z
    ·exfalso; subst z; exact lz 0x22120f32c0b611003f91932ca0811003f9073 [val (List.drop p E1), 256 ^ s, val (List.drop p E), g * val m] hwin3 hwin1 r0
    ·exact z
   refine Q6 G hB hx2 (eb ext2) hab lE1 lm (ln 0x222221003022321203 [E1.length, ML, F.length, E.length] hF hEl hx3) (ln 0x211122210a14220e6e1b3e5eccc85423124 [p, m.length, E1.length, s, E.length, F.length, k] hsz hEl hpI hx3) fun e2 E2 υ3 hy1 hy2 hy3 lE2 he2 hy4 hy5 => ?_
   rw [hsz] at hy4 hy5
   have tk2 : E2.take p = E.take p := (Rp hy3 fun i hi => hy4 i (.inl hi)).trans tk1
   have dr2 : E2.drop (p + 1 + s) = E.drop (p + 1 + s) := (Sj hy3 fun i hi => hy4 i (.inr (ln 0x222210a1211b0aa01 [p, s, i] hi))).trans dr1
   have s3 := A8 E2 p (ln 0x2111121006122620e5e1b4e3eccc83224 [p, E2.length, E.length, F.length, s, k, E1.length] hEl hpI hx3 hy3)
   rw [tk2] at s3
   have hwin4 : val (E2.drop p) = val (E1.drop p) + val m - 256 ^ s * 256 * e2 := by
    exact eT s2 s3 hy5
   have hwin5 : val (E2.drop p) < 256 ^ s * 256 := by
    have := A8 (E2.drop p) (s + 1) (by rw [List.length_drop]; exact dG hF hML hs hsF hEl hp hpI hps hx3 hy3)
    rw [List.drop_drop, show p + (s + 1) = p + 1 + s by exact o92, dr2, w1] at this
    have h2 := C7 ((lE2.drop p).take (s + 1))
    rw [List.length_take, List.length_drop, Nat.min_eq_left (dG hF hML hs hsF hEl hp hpI hps hx3 hy3), Cs] at h2
    exact lz 0x222211003f90711003f9273092a082 [val (List.drop p E2), 256 ^ s, val (List.take (s + 1) (List.drop p E2)), 256 ^ (s + 1)] this h2
   have hgm : g * val m = q * val m + val m := by rw [hgq, Int.add_mul, Int.one_mul]
   have he2' : e2 = 1 := by
    rcases he2 with z | z
    ·exfalso; subst z; lia
    ·exact z
   subst he2'
   have hD3 : υ3 f = some (iL D) := hy1 _ _ hfa hD2
   refine And.intro (rfl) (?_)
   conv => whnf
   rw [show g - 1 = q by (exact lz 0x122211b0c81b1a081 [g, q] hgq)]
   refine stx hf1 hD3 p rfl (ln 0x21212101432a2430a12123 [p, D.length, F.length - s, s, F.length] hDl hps (lsc F.length s (ln 0x2221001011 [s, F.length] hsF))) fun υ4 hw1 hw2 => ?_
   have ext4 : Ag a σ υ4 := fun x o hx ho => hw1 x o (fun z => by rw [z, hf2] at ho; cases ho) (hy1 x o hx (ext2 x o hx ho))
   exact fin E2 υ4 _ _ ext4 (hw1 _ _ (Ne.symm hfa) hy2) hw2 (ln 0x111222221023022321223 [E2.length, F.length, E.length, E1.length] hEl hx3 hy3) lE2 tk2 (by lia)
  ·have ee : ¬ e = 1 := of_decide_eq_false ee
   have ee : e = 0 := by lia
   subst ee
   have hgq : g = q := by
    rcases qg with z | z
    ·exact z
    ·exfalso
     have hgm : g * val m = q * val m + val m := by rw [z, Int.add_mul, Int.one_mul]
     lia
   subst hgq
   refine stx hf1 hD2 p rfl (ln 0x21212101432a2430a12123 [p, D.length, F.length - s, s, F.length] hDl hps (lsc F.length s (ln 0x2221001011 [s, F.length] hsF))) fun υ4 hw1 hw2 => ?_
   have ext4 : Ag a σ υ4 := fun x o hx ho => hw1 x o (fun z => by rw [z, hf2] at ho; cases ho) (ext2 x o hx ho)
   exact fin E1 υ4 _ _ ext4 (hw1 _ _ (Ne.symm hfa) hx2) hw2 (ln 0x1122221022021222 [E1.length, F.length, E.length] hEl hx3) lE1 tk1 (lz 0x122221c0831003f90921ca081 [val (List.drop p E1), val (List.drop p E), g * val m, 256 ^ s] hwin1)
 ·(refine fun _ υ => D0 fun E D u1 u2 zq0 => ?_; refine Cc zq0 fun zq1 he hE hD hEl hDl hk lE lD zq2 => ?_; subst zq1; refine zAA zq2 fun hz0 hv hw => ?_)
  rw [Fe, show F.length - s - ((F.length : Int) - s - 1 - -1).toNat = 0 by (exact ln 0x211212220b021bd1b3e4eccc1e8432a2210a23 [F.length - s - ((↑F.length : Int) - (↑s : Int) - 1 - -1).toNat, ((↑F.length : Int) - (↑s : Int) - 1 - -1).toNat, F.length - s, s, F.length] (lsc (F.length - s) (((↑F.length : Int) - (↑s : Int) - 1 - -1).toNat) (ln 0x22121001bd1b2e3eccc0e8321a22 [((↑F.length : Int) - (↑s : Int) - 1 - -1).toNat, F.length - s, s, F.length] (lsc F.length s (ln 0x2221001011 [s, F.length] hsF)) (ltn ((↑F.length : Int) - (↑s : Int) - 1 - -1) (ln 0x2221bd1b1e0eccc0b60111 [F.length, s] hsF)))) (lsc F.length s (ln 0x2221001011 [s, F.length] hsF)) (ltn ((↑F.length : Int) - (↑s : Int) - 1 - -1) (ln 0x2221bd1b1e0eccc0b60111 [F.length, s] hsF)))] at hw
  exact hQ f D E υ hf1 hf2 he hE hD lE lD hEl (ln 0x22222100123a230222b03 [D.length, F.length, s, F.length - s] hs hDl (lsc F.length s (ln 0x2221001011 [s, F.length] hsF))) hv hw
end
theorem W1 {t : Int} (h0 : 0 < t) (h1 : t < 256) : ∃ k : Nat, bitsI t = k + 1 ∧ k ≤ 7 ∧ (2 : Int) ^ k ≤ t ∧ t < 2 ^ (k + 1) := by
 (refine zE (Int.eq_ofNat_of_zero_le (Int.le_of_lt h0)) fun m zq0 => ?_; subst zq0)
 have hm : m ≠ 0 := by exact ln 0x2220b050e0b71 [m] h0
 refine Ar m.log2 ?_ ?_ ?_ ?_
 ·show Builtin.Int.intBits m = _
  unfold Builtin.Int.intBits
  rw [if_neg (by simp; omega)]
  rfl
 ·have := (Nat.log2_lt hm (k := 8)).mpr (by lia); exact ln 0x2227b008b011 [m.log2] this
 ·have := Nat.log2_self_le hm
  have := Int.ofNat_le.mpr this
  rwa [Int.natCast_pow] at this
 ·have := Nat.lt_log2_self (n := m)
  have := Int.ofNat_lt.mpr this
  rwa [Int.natCast_pow] at this
theorem V5 {m m' : List Int} {sh k : Nat} {t : Int} (n1 : Nrm m) (n2 : Nrm m') (hne : m ≠ []) (ht : gt m (m.length - 1) = t) (hk : k ≤ 7) (hsh : sh = 7 - k) (hb : (2 : Int) ^ k ≤ t) (hb' : t < 2 ^ (k + 1)) (hv : val m' = val m * 2 ^ sh) :
  m'.length = m.length ∧ 128 ≤ gt m' (m'.length - 1) := by
 have hp : 0 < m.length := List.length_pos_iff.mpr hne
 have a1 := A8 m (m.length - 1) (o33 hp)
 have a2 := Bi (l := m) (j := m.length - 1) (o24 hp)
 rw [show m.length - 1 + 1 = m.length by exact o75 hp, List.drop_length, ht] at a2
 simp only [val] at a2
 have a3 := Ap (n1.1.take (m.length - 1))
 have a4 := C7 (n1.1.take (m.length - 1))
 rw [List.length_take, Nat.min_eq_left (o33 hp)] at a4
 have e1 : (2 : Int) ^ sh * 2 ^ k = 128 := by
  rw [← Int.pow_add, hsh, show 7 - k + k = 7 by (exact ln 0x12227b10a27b10a21 [7 - k, k] (lsc 7 k (ln 0x2227b007b001 [k] hk)))]; rfl
 have e2 : (2 : Int) ^ sh * 2 ^ (k + 1) = 256 := by
  rw [← Int.pow_add, hsh, show 7 - k + (k + 1) = 8 by (exact ln 0x12228b1b1a0a27b10a21 [7 - k, k] (lsc 7 k (ln 0x2227b007b001 [k] hk)))]; rfl
 have sp : (0 : Int) < 2 ^ sh := Int.pow_pos (by decide)
 have b1 : 128 ≤ 2 ^ sh * t := by have := Int.mul_le_mul_of_nonneg_left hb (Int.le_of_lt sp); exact lz 0x22120802fb6016802fb182 [2 ^ sh * t, 2 ^ sh * 2 ^ k] e1 this
 have b2 : 2 ^ sh * (t + 1) ≤ 256 := by have := Int.mul_le_mul_of_nonneg_left (show t + 1 ≤ 2 ^ (k + 1) by assumption) (Int.le_of_lt sp); exact lz 0x22221003fb061061003fb182 [2 ^ sh * (t + 1), 2 ^ sh * 2 ^ (k + 1)] e2 this
 have pw : (256 : Int) ^ m.length = 256 ^ (m.length - 1) * 256 := by rw [← Cs]; congr 1; exact ln 0x22121b1a0201b1a21 [m.length, m.length - 1] (lsc m.length 1 (ln 0x22201b000b11 [m.length] hp))
 have P := Aw (m.length - 1)
 generalize hP : (256 : Int) ^ (m.length - 1) = p at *
 have c1 : p * 128 ≤ val m' := by
  rw [hv, a1, a2]
  have : (val (m.take (m.length - 1)) + p * (t + 256 * 0)) * 2 ^ sh = val (m.take (m.length - 1)) * 2 ^ sh + p * (2 ^ sh * t) := by grind
  rw [this]
  have z1 := Int.mul_nonneg a3 (Int.le_of_lt sp)
  have z2 := Int.mul_le_mul_of_nonneg_left b1 (Int.le_of_lt P)
  exact lz 0x222221a0802f9620802f9610b62 [p, val (List.take (m.length - 1) m) * 2 ^ sh, p * (2 ^ sh * t)] z1 z2
 have c2 : val m' < p * 256 := by
  rw [hv, a1, a2]
  have : (val (m.take (m.length - 1)) + p * (t + 256 * 0)) * 2 ^ sh = p * (2 ^ sh * (t + 1)) - (p - val (m.take (m.length - 1))) * 2 ^ sh := by grind
  rw [this]
  have z1 := Int.mul_pos (show 0 < p - val (m.take (m.length - 1)) by exact lz 0x22210c0b70171 [p, val (List.take (m.length - 1) m)] a4) sp
  have z2 := Int.mul_le_mul_of_nonneg_left b2 (Int.le_of_lt P)
  exact lz 0x222221003f910c721003f90610b72 [p * (2 ^ sh * (t + 1)), (p - val (List.take (m.length - 1) m)) * 2 ^ sh, p] z1 z2
 have len1 : m'.length ≤ m.length := n2.len_le (by rw [pw]; exact c2)
 have len2 : m.length ≤ m'.length := by
  rcases Nat.lt_or_ge m'.length m.length with q | q
  ·have := C7 n2.1
   have := Ej (show m'.length ≤ m.length - 1 by exact ln 0x212210021b1a22012 [m'.length, m.length - 1, m.length] q (lsc m.length 1 (ln 0x22201b000b11 [m.length] hp)))
   exact lq 0x2222fe2f2010003632721802f9610b71085 [m.length, m'.length] [256 ^ (m.length - 1), p, val m', 256 ^ m'.length] hP P c1 ‹_› this
  ·exact q
 have len : m'.length = m.length := by exact ln 0x2020221020101002 [m'.length, m.length] len1 len2
 refine ⟨len, ?_⟩
 have d1 := A8 m' (m'.length - 1) (ln 0x22210011b0a21 [m'.length - 1, m'.length] (lsc m'.length 1 (ln 0x222201b001010b12 [m'.length, m.length] hp len2)))
 have d2 := Bi (l := m') (j := m'.length - 1) (ln 0x22210111b0a21 [m'.length - 1, m'.length] (lsc m'.length 1 (ln 0x222201b001010b12 [m'.length, m.length] hp len2)))
 rw [show m'.length - 1 + 1 = m'.length by exact ln 0x122211b0a211b0a21 [m'.length - 1, m'.length] (lsc m'.length 1 (ln 0x222201b001010b12 [m'.length, m.length] hp len2)), List.drop_length] at d2
 simp only [val] at d2
 have d4 := C7 (n2.1.take (m'.length - 1))
 rw [List.length_take, Nat.min_eq_left (by exact ln 0x22210011b0a21 [m'.length - 1, m'.length] (lsc m'.length 1 (ln 0x222201b001010b12 [m'.length, m.length] hp len2)))] at d4
 rw [show (256 : Int) ^ (m'.length - 1) = p by rw [len]; exact hP] at d1 d4
 rcases Int.lt_or_le (gt m' (m'.length - 1)) 128 with q | q
 ·exfalso
  rw [d2] at d1
  have := Int.mul_le_mul_of_nonneg_left (show gt m' (m'.length - 1) + 256 * 0 ≤ 127 by exact lz 0x2227f2fb0b1003f80a6802fb071 [gt m' (m'.length - 1)] q) (Int.le_of_lt P)
  exact lz 0x222220f07f2f93602732a1810802f964 [p, val m', val (List.take (m'.length - 1) m'), p * (gt m' (m'.length - 1) + 256 * 0)] c1 d1 d4 this
 ·exact q
section
variable {h0 : Heap} {prog : Program} {w : World} {mg mb : Str → Option Value} (G : Gd (KK w) h0 mg mb) {n : Nat}
theorem Zi {x y q r s : Int} (hs : 0 < s) (h : q * (y * s) + r = x * s) (h0 : 0 ≤ r) (h1 : r < y * s) : q = x / y ∧ r / s = x % y := by
 have e : r = (x - q * y) * s := by grind
 have r0 : 0 ≤ x - q * y := by
  rcases Int.lt_or_le (x - q * y) 0 with z | z
  ·have := Int.mul_neg_of_neg_of_pos z hs; exact lz 0x2222010c0b60b3732820b63 [x, q * y, r, (x - q * y) * s] h0 e this
  ·exact z
 have r1 : x - q * y < y := by
  rcases Int.lt_or_le (x - q * y) y with z | z
  ·exact z
  ·have := Int.mul_le_mul_of_nonneg_right z (Int.le_of_lt hs); exact lz 0x22120210c75465384373 [x, q * y, y, r, y * s, (x - q * y) * s] h1 e this
 refine zA (Ep r0 r1 (q := q) (x := x) (lz 0x22101c0a80 [q * y, x])) fun a b => ?_
 refine ⟨a, ?_⟩
 rw [e, Int.mul_ediv_cancel _ (o4 hs)]
 exact b
set_option maxHeartbeats 4000000 in
include G in
theorem Ja {a b : Addr} {x y : Int} {σ : Aa} {Q : V → Aa → Prop} (ha : IsN σ a x) (hb : IsN σ b y) (hx : x < 256 ^ (ML - 8)) (hy : y < 256 ^ (ML - 8)) (hy0 : 0 < y)
  (hQ : ∀ t q r σ', Bs h0 t → σ t = none → σ q = none → σ r = none → Ext σ σ' → σ' t = some (.tup [.ref q, .ref r]) → IsN σ' q (x / y) → IsN σ' r (x % y) → Q (.ref t) σ') : CC prog w h0 (n + 4) (.ref 357) [.ref a, .ref b, .int 8] σ Q := by
 have hML := Ch
 have mono := Ej (show ML - 8 ≤ ML by exact o54 hML)
 have hx' : x < 256 ^ ML := by exact lz 0x22221071262072 [x, 256 ^ ML, 256 ^ (ML - 8)] hx mono
 have hy' : y < 256 ^ ML := by exact lz 0x22221071262072 [y, 256 ^ ML, 256 ^ (ML - 8)] hy mono
 refine enter G [some (.ref a), some (.ref b), some (.int 8), none, none, none, none] (Ip _) rfl rfl ?_
 have ha0 := ha
 have hb0 := hb
 (refine A6 ha fun l h1 n1 zq0 => ?_; subst zq0)
 (refine A6 hb fun m h2 n2 zq0 => ?_; subst zq0)
 have l1 := n1.len_le hx
 have l2 := n2.len_le hy
 have hne : m ≠ [] := fun q => by subst q; simp [val] at hy0
 have hmp : 0 < m.length := List.length_pos_iff.mpr hne
 have x0 := Ap n1.1
 refine iEA _ h2 ?_
 conv => whnf
 simp only [List.length_map]
 refine ⟨fun e => ?_, fun e => ?_⟩
 ·have e := of_decide_eq_true e; exact False.elim (ln 0x2220f0b0e800b12 [m.length] hmp e)
 clear e
 refine Ev G ha0 hb0 hx' hy' ?_
 refine And.intro (fun e => ?_) (fun e => ?_)
 ·have e := of_decide_eq_true e
  have hlt : val l < val m := by
   unfold Dv at e
   split at e
   ·assumption
   ·split at e <;> lia
  conv => whnf
  intro q σ1 q1 q2 q3 q4
  refine iEA _ (q3 _ _ h1) ?_
  intro r σ2 r1 r2 r3 r4
  rw [Sl] at r4
  conv => whnf
  intro t σ3 t1 t2 t3 t4
  refine hQ t q r σ3 t1 ((q3.trans r3).none t2) q2 (q3.none r2) ((q3.trans r3).trans t3) t4 (Ay ([]) (t3 _ _ (r3 _ _ q4)) Nrm.nil ?_) (Ay l (t3 _ _ r4) n1 ?_)
  ·rw [Int.ediv_eq_zero_of_lt x0 hlt]; rfl
  ·rw [Int.emod_eq_of_lt x0 hlt]
 have e := of_decide_eq_false e
 have hge : val m ≤ val l := by
  unfold Dv at e
  split at e
  ·exact lz 0x2201060b1bda1 [val m, val l] e
  ·exact lz 0x22210601a1 [val m, val l] ‹_›
 have hlen : m.length ≤ l.length := by
  rcases Nat.lt_or_ge l.length m.length with q | q
  ·have := E5 n1 n2 q; exact lq 0x22201000171062 [m.length, l.length] [val m, val l] hge this
  ·exact q
 have gtop := B7 n2.1 (m.length - 1)
 have gtop' : gt m (m.length - 1) ≠ 0 := n2.2.resolve_left hne
 refine iEA _ h2 ?_
 conv => whnf
 simp only [List.length_map]
 refine ⟨fun e1 => ?_, fun e1 => ?_⟩
 ·have e1 := of_decide_eq_true e1
  have em : m = [gt m 0] := by
   match m, e1 with
   | [d], _ => rfl
  have ev : val m = gt m 0 := by rw [em]; simp [val, gt]
  rw [show m.length - 1 = 0 by (exact ln 0x1122220b0211b0a21b1e82 [m.length - 1, m.length] e1 (lsc m.length 1 (ln 0x21201b01b0e81 [m.length] e1)))] at gtop gtop'
  refine Kr G ha0 hx' (by rw [← em]; exact h2) (by exact lz 0x222200b701810b72 [gt m 0, val m] hy0 ev) gtop.2 ?_
  rw [← ev]
  exact hQ
 have e1 := of_decide_eq_false e1
 refine Ix _ (m.length - 1) (.int (gt m (m.length - 1))) ⟨.inl h2, .inr (by rw [List.length_map]; exact ln 0x22121e0ec1bd811b0a21 [m.length - 1, m.length] (lsc m.length 1 (ln 0x22201b000b11 [m.length] hmp))), by rw [List.getElem?_map, Bg (o24 hmp)]; rfl⟩ ?_
 conv => whnf
 intro c σ1 c1 c2 c3 c4
 refine cB G c4 ?_
 refine L3 (W1 (t := gt m (m.length - 1)) (lz 0x22200b700b71 [gt m (m.length - 1)] (Int.lt_iff_le_and_ne.mpr ⟨lz 0x22200b600b61 [gt m (m.length - 1)] gtop.1, (Ne.symm gtop')⟩)) gtop.2) fun k bk k7 bk1 bk2 => ?_
 rw [bk]
 obtain ⟨sh, hsh⟩ : ∃ sh, sh = 7 - k := ⟨_, rfl⟩
 have sp : (0 : Int) < 2 ^ sh := Int.pow_pos (by decide)
 have sp' : (2 : Int) ^ sh ≤ 128 := by
  have h := Nat.pow_le_pow_right (show 0 < 2 by decide) (show sh ≤ 7 by exact ln 0x22227b007b21a21022 [sh, 7 - k, k] hsh (lsc 7 k (ln 0x2227b007b001 [k] k7)))
  have := Int.ofNat_le.mpr h
  rwa [Int.natCast_pow, Int.natCast_pow] at this
 conv => whnf
 rw [show (8 : Int) - ((k + 1 : Nat) : Int) = (sh : Nat) by (exact ln 0x2221121e1b0ae8bc87b02a22122 [k, sh, 7 - k] hsh (lsc 7 k (ln 0x2227b007b001 [k] k7)))]
 have hmono2 := Ej (show ML - 8 + 1 ≤ ML by exact ln 0x22211b0a018b0a21 [ML - 8, ML] (lsc ML 8 (ln 0x21208b07ffff86fb021 [ML] hML)))
 rw [Cs] at hmono2
 refine Fh G (hb0.ext c3) hy' (o78 k7 hsh) fun d σ2 d1 d2 d3 d4 => ?_
 refine Fh G ((ha0.ext c3).ext d3) hx' (o78 k7 hsh) fun r σ3 r1 r2 r3 r4 => ?_
 refine A6 d4 fun m' hm1 nm' hmv => ?_
 refine A6 r4 fun R hr1 nR hRv => ?_
 refine zA (V5 n2 nm' hne rfl k7 hsh bk1 bk2 hmv) fun lenm topm => ?_
 have hxs : val l * 2 ^ sh ≤ val l * 128 := Int.mul_le_mul_of_nonneg_left sp' x0
 have hll := C7 n1.1
 have lenR : R.length ≤ l.length + 1 := nR.len_le (by rw [Cs, hRv]; exact lz 0x22003f21003f1003f211003f9071373802f90632620b74 [val l * 2 ^ sh, 256 ^ l.length, val m, val l] hy0 hge hxs hll)
 conv => whnf
 intro z σ4 z1 z2 z3 z4
 refine iEA _ (z3 _ _ (r3 _ _ (d3 _ _ (c3 _ _ h1)))) ?_
 refine iEA _ (z3 _ _ hr1) ?_
 conv => whnf
 simp only [List.length_map]
 refine iEA (.int 0) ⟨z4, ln 0x2221e1b0eac0b61b0a101 [l.length, R.length] lenR, by show _ ≤ (16777216 : Int); exact ln 0x2222210000007fb1e1b0eac628b3a23007ffff86fb223 [l.length, R.length, ML, ML - 8] hML l1 (lsc ML 8 (ln 0x21208b07ffff86fb021 [ML] hML))⟩ ?_
 intro z' σ5 y1 y2 y3 y4
 rw [Jo, show ((l.length : Int) + 1 - R.length).toNat = l.length + 1 - R.length by (exact ln 0x2121221021b2a31a23e1b2eac0e82 [((↑l.length : Int) + 1 - (↑R.length : Int)).toNat, l.length + 1 - R.length, l.length, R.length] (ltn ((↑l.length : Int) + 1 - (↑R.length : Int)) (ln 0x2221e1b0eac0b61b0a101 [l.length, R.length] lenR)) (lsc (l.length + 1) R.length (ln 0x2221b1a001b1a001 [R.length, l.length] lenR)))] at y4
 refine C5 _ _ ⟨y3 _ _ (z3 _ _ hr1), y4, by simp; show _ ≤ 16777216; exact ln 0x22222210000007fb10a028b4a21b3a01a24307ffff86fb224 [R.length, l.length + 1 - R.length, ML, l.length, ML - 8] hML l1 (lsc (l.length + 1) R.length (ln 0x2221b1a001b1a001 [R.length, l.length] lenR)) (lsc ML 8 (ln 0x21208b07ffff86fb021 [ML] hML))⟩ ?_
 intro f σ6 f1 f2 f3 f4
 rw [← List.map_append] at f4
 have ext6 : Ext σ σ6 := ((((c3.trans d3).trans r3).trans z3).trans y3).trans f3
 have hmd : σ6 d = some (iL m') := f3 _ _ (y3 _ _ (z3 _ _ (r3 _ _ hm1)))
 have hdf : d ≠ f := fun q => by
  have h' := y3 _ _ (z3 _ _ (r3 _ _ hm1))
  rw [q, f2] at h'; cases h'
 have lF : Lo (R ++ List.replicate (l.length + 1 - R.length) 0) := nR.1.append Lo.rep
 have lenF : (R ++ List.replicate (l.length + 1 - R.length) (0 : Int)).length = l.length + 1 := by simp; exact ln 0x12221b2a10a21b2a01a21 [R.length, l.length + 1 - R.length, l.length] (lsc (l.length + 1) R.length (ln 0x2221b1a001b1a001 [R.length, l.length] lenR))
 have vF : val (R ++ List.replicate (l.length + 1 - R.length) 0) = val l * 2 ^ sh := by rw [E0, Dt, hRv]; exact lz 0x2201090a80 [val l * 2 ^ sh, 256 ^ R.length]
 generalize hF : R ++ List.replicate (l.length + 1 - R.length) (0 : Int) = F at *
 refine Lr G f1 f4 hmd hdf lF nm'.1 (ln 0x2222210018b3a21b2a023203 [F.length, ML, l.length, ML - 8] l1 lenF (lsc ML 8 (ln 0x21208b07ffff86fb021 [ML] hML))) (ln 0x221202b01e1b71022 [m'.length, m.length] lenm (Int.lt_iff_le_and_ne.mpr ⟨ln 0x2220e1b600b11 [m.length] hmp, (Ne.symm e1)⟩)) (ln 0x212221011b3a122023203 [m'.length, F.length, m.length, l.length] hlen lenm lenF) topm ?_ ?_
 ·-- the first window is below the divisor
  have t1 := A8 F (F.length - m'.length) (ln 0x22122100130a223220b13 [F.length - m'.length, F.length, m.length, m'.length] hmp lenm (lsc F.length m'.length (ln 0x212221001b3a122023203 [m'.length, F.length, m.length, l.length] hlen lenm lenF)))
  have t2 := Ap (lF.take (F.length - m'.length))
  have P := Aw (F.length - m'.length)
  have t3 : val l * 2 ^ sh < 256 ^ l.length * 2 ^ sh := Int.mul_lt_mul_of_pos_right hll sp
  have t4 : (256 : Int) ^ l.length = 256 ^ (F.length - m'.length) * 256 ^ (m'.length - 1) := by rw [← Int.pow_add]; congr 1; exact ln 0x2222111221a0241b2a2341a21b0a323 [l.length, F.length - m'.length, m'.length - 1, F.length, m'.length] lenF (lsc F.length m'.length (ln 0x212221001b3a122023203 [m'.length, F.length, m.length, l.length] hlen lenm lenF)) (lsc m'.length 1 (ln 0x212201b010210b12 [m'.length, m.length] hmp lenm))
  have t5 : 256 ^ (m'.length - 1) * 128 ≤ val m' := by
   have a1 := A8 m' (m'.length - 1) (ln 0x22210011b0a21 [m'.length - 1, m'.length] (lsc m'.length 1 (ln 0x212201b010210b12 [m'.length, m.length] hmp lenm)))
   have a2 := Bi (l := m') (j := m'.length - 1) (ln 0x22210111b0a21 [m'.length - 1, m'.length] (lsc m'.length 1 (ln 0x212201b010210b12 [m'.length, m.length] hmp lenm)))
   rw [show m'.length - 1 + 1 = m'.length by exact ln 0x122211b0a211b0a21 [m'.length - 1, m'.length] (lsc m'.length 1 (ln 0x212201b010210b12 [m'.length, m.length] hmp lenm)), List.drop_length] at a2
   simp only [val] at a2
   have a3 := Ap (nm'.1.take (m'.length - 1))
   have := Int.mul_le_mul_of_nonneg_left (show 128 ≤ val (m'.drop (m'.length - 1)) by exact lz 0x21220802fb60b1003f81a081802fb62 [val (List.drop (m'.length - 1) m'), gt m' (m'.length - 1)] topm a2) (Int.le_of_lt (Aw (m'.length - 1)))
   exact lz 0x2221210802f9630802f9620b632a183 [256 ^ (m'.length - 1), val m', val (List.take (m'.length - 1) m'), 256 ^ (m'.length - 1) * val (List.drop (m'.length - 1) m')] a1 a3 this
  have t6 : (256 : Int) ^ (m'.length - 1) * 2 ^ sh ≤ 256 ^ (m'.length - 1) * 128 := Int.mul_le_mul_of_nonneg_left sp' (Int.le_of_lt (Aw _))
  rcases Int.lt_or_le (val (F.drop (F.length - m'.length))) (val m') with q | q
  ·exact q
  ·exfalso
   have u1 := Int.mul_le_mul_of_nonneg_left (show 256 ^ (m'.length - 1) * 2 ^ sh ≤ val (F.drop (F.length - m'.length)) by exact lz 0x222221061362802f90632802f963 [256 ^ (m'.length - 1) * 2 ^ sh, val (List.drop (F.length - m'.length) F), 256 ^ (m'.length - 1), val m'] t5 t6 q) (Int.le_of_lt P)
   rw [t4, Int.mul_assoc] at t3
   exact lz 0x2222120f34641720b632a081085 [val F, val l * 2 ^ sh, val (List.take (F.length - m'.length) F), 256 ^ (F.length - m'.length) * val (List.drop (F.length - m'.length) F), 256 ^ (F.length - m'.length) * (256 ^ (m'.length - 1) * 2 ^ sh)] vF t1 t2 t3 u1
 ·intro g D F' σ7 g1 g2 g3 g4 g5 lF' lD lenF' lenD hv hr
  rw [hmv, vF] at hv
  rw [hmv] at hr
  have hr0 := Ap lF'
  refine zA (Zi sp hv hr0 hr) fun eq1 eq2 => ?_
  have ext7 : Ext σ σ7 := fun x o e => g3 x o (fun q => by
   have := f2
   have h' := ((((c3.trans d3).trans r3).trans z3).trans y3) _ _ e
   rw [q, this] at h'; cases h') (ext6 x o e)
  refine Eu G g5 lD fun qq σ8 q1 q2 q3 q4 => ?_
  refine Eu G (q3 _ _ g4) lF' fun rr σ9 rr1 rr2 rr3 rr4 => ?_
  conv => whnf
  have hb1 : val F' < 256 ^ ML := by
   have : val m * 2 ^ sh ≤ val m * 128 := Int.mul_le_mul_of_nonneg_left sp' (Int.le_of_lt hy0)
   exact lz 0x242422003f21072802f94600b6407131003f963275 [val F', 256 ^ ML, val m, 256 ^ (ML - 8), val m * 2 ^ sh] hy hmono2 hr hr0 this
  refine Lp G rr4 hb1 (o78 k7 hsh) fun ss σ10 ss1 ss2 ss3 ss4 => ?_
  conv => whnf
  intro t σ11 t1 t2 t3 t4
  have ext10 : Ext σ σ10 := ((ext7.trans q3).trans rr3).trans ss3
  refine hQ t qq ss σ11 t1 (ext10.none t2) (ext7.none q2) (((ext7.trans q3).trans rr3).none ss2) (ext10.trans t3) t4 ?_ ?_
  ·rw [← eq1]; exact ((q4.ext rr3).ext ss3).ext t3
  ·rw [← eq2]; exact ss4.ext t3
end
noncomputable def IsS (M : Addr → Prop) (σ : Aa) (v : V) (z : Int) : Prop := ∃ t a, v = .ref t ∧ σ t = some (.tup [.bool (decide (z < 0)), .ref a]) ∧ IsN σ a z.natAbs ∧ ¬ M a
noncomputable def C6 (M : Addr → Prop) (σ : Aa) : Prop := ∀ m, M m → σ m ≠ none
theorem IsS.ext {M : Addr → Prop} {σ σ' : Aa} {v : V} {z : Int} (h : IsS M σ v z) (e : Ext σ σ') : IsS M σ' v z := by
 refine Be h fun t a h1 h2 h3 h4 => ?_; exact Br t a h1 (e _ _ h2) (h3.ext e) h4
theorem C6.ext {M : Addr → Prop} {σ σ' : Aa} (h : C6 M σ) (e : Ext σ σ') : C6 M σ' := fun m hm => by
 cases q : σ m with
 | none => exact absurd q (h m hm)
 | some o => rw [e _ _ q]; simp
theorem C6.not {M : Addr → Prop} {σ : Aa} (h : C6 M σ) {a : Addr} (e : σ a = none) : ¬ M a := fun m => h a m e
noncomputable def Bnd (k : Nat) (z : Int) : Prop := (z.natAbs : Int) < 256 ^ k
theorem Bnd.mono {k k' : Nat} {z : Int} (h : Bnd k z) (hk : k ≤ k') : Bnd k' z := Int.lt_of_lt_of_le h (Ej hk)
theorem Bnd.add {k : Nat} {x y : Int} (h : Bnd k x) (h' : Bnd k y) : Bnd (k + 1) (x + y) := by
 unfold Bnd at *; rw [Cs]; exact lnk (lq 0x22221fe3f221003f910a71e160e0621e720e74 [x.natAbs, y.natAbs] [x, y, 256 ^ k] h h' (lna x) (lna y)) (lq 0x22221fe3f221003f910ad71e1d60e0d621e720e74 [x.natAbs, y.natAbs] [x, y, 256 ^ k] h h' (lnb x) (lnb y))
theorem Bnd.sub {k : Nat} {x y : Int} (h : Bnd k x) (h' : Bnd k y) : Bnd (k + 1) (x - y) := by
 unfold Bnd at *; rw [Cs]; exact lnk (lq 0x22221fe3f221003f910c71e1d60e0621e720e74 [x.natAbs, y.natAbs] [x, y, 256 ^ k] h h' (lna x) (lnb y)) (lq 0x22221fe3f221003f910cd71e160e0d621e720e74 [x.natAbs, y.natAbs] [x, y, 256 ^ k] h h' (lnb x) (lna y))
theorem Bnd.mul {k j : Nat} {x y : Int} (h : Bnd k x) (h' : Bnd j y) : Bnd (k + j) (x * y) := by
 unfold Bnd at *
 rw [Int.natAbs_mul, Int.natCast_mul, Int.pow_add]
 have p := Aw j
 have := Int.mul_le_mul (show (x.natAbs : Int) ≤ 256 ^ k - 1 by exact lq 0x2221b0c0e600e71 [x.natAbs] [256 ^ k] h) (Int.le_of_lt h') (o23) (by have := Aw k; exact lz 0x2221b0c0b600b71 [256 ^ k] this)
 rw [Int.sub_mul, Int.one_mul] at this
 exact lz 0x222210721c0620b72 [↑x.natAbs * ↑y.natAbs, 256 ^ k * 256 ^ j, 256 ^ j] p this
theorem Bnd.neg {k : Nat} {x : Int} (h : Bnd k x) : Bnd k (-x) := by unfold Bnd at *; rw [Int.natAbs_neg]; exact h
theorem Wd (x y : Int) : x * y = if decide (decide (x < 0) ≠ decide (y < 0)) = true then -((x.natAbs : Int) * y.natAbs) else (x.natAbs : Int) * y.natAbs := by
 by_cases hx : x < 0 <;> by_cases hy : y < 0
 ·rw [show (x.natAbs : Int) = -x by exact o1 hx, show (y.natAbs : Int) = -y by (exact o1 hy)]; simp [hx, hy]; grind
 ·rw [show (x.natAbs : Int) = -x by exact o1 hx, show (y.natAbs : Int) = y by (exact o5 hy)]; simp [hx, hy]; grind
 ·rw [show (x.natAbs : Int) = x by exact o5 hx, show (y.natAbs : Int) = -y by (exact o1 hy)]; simp [hx, hy]; grind
 ·rw [show (x.natAbs : Int) = x by exact o5 hx, show (y.natAbs : Int) = y by (exact o5 hy)]; simp [hx, hy]
theorem IsN.nonneg {σ : Aa} {a : Addr} {z : Int} (h : IsN σ a z) : 0 ≤ z := by
 (refine A6 h fun l _ n zq0 => ?_; subst zq0); exact Ap n.1
theorem IsN.list {σ : Aa} {a : Addr} {z : Int} (h : IsN σ a z) : ∃ l, σ a = some (iL l) ∧ (0 < l.length ↔ 0 < z) := by
 (refine A6 h fun l h1 n zq0 => ?_; subst zq0)
 refine ⟨l, h1, fun h => n.pos (List.length_pos_iff.mp h), fun h => ?_⟩
 rcases Nat.eq_zero_or_pos l.length with q | q
 ·rw [List.length_eq_zero_iff.mp q] at h; simp [val] at h
 ·exact q
section
variable {h0 : Heap} {prog : Program} {w : World} {mg mb : Str → Option Value} (G : Gd (KK w) h0 mg mb) {n : Nat}
include G in
theorem Dl {M : Addr → Prop} {b : Bool} {a : Addr} {x z : Int} {σ : Aa} {Q : V → Aa → Prop} (ha : IsN σ a x) (hM : ¬ M a) (hz : z = if b then -x else x) (hQ : ∀ t σ', Ext σ σ' → IsS M σ' (.ref t) z → Q (.ref t) σ') :
  CC prog w h0 (n + 1) (.ref 135) [.bool b, .ref a] σ Q := by
 have h0 := ha.nonneg
 refine zEA ha.list fun l h1 hl => ?_
 refine enter G [some (.bool b), some (.ref a)] (Ug _) rfl rfl ?_
 have fin : ∀ c : Bool, c = decide (z < 0) → ∀ t σ', Ext σ σ' → σ' t = some (.tup [.bool c, .ref a]) → Q (.ref t) σ' := fun c hc t σ' e ht =>
  hQ t σ' e (Br t a rfl (by rw [ht, hc]) (by
   rw [show ((z.natAbs : Nat) : Int) = x by rw [hz]; split <;> lia]; exact ha.ext e) hM)
 refine And.intro (fun e => ?_) (fun e => ?_)
 ·subst e
  refine iEA _ h1 ?_
  conv => whnf
  intro t σ' _ _ t3 t4
  refine fin _ ?_ t σ' t3 t4
  rw [hz, if_pos rfl]
  simp only [List.length_map, decide_eq_decide]
  exact gC h0 hl
 ·subst e
  conv => whnf
  intro t σ' _ _ t3 t4
  refine fin _ ?_ t σ' t3 t4
  rw [hz, if_neg (by decide)]
  symm
  rw [decide_eq_false_iff_not]
  exact lz 0x2220b0a00b61 [x] h0
include G in
theorem Wz {x : Int} {σ : Aa} {Q : V → Aa → Prop} (h0' : 0 ≤ x) (hx : x < 256 ^ ML) (hQ : ∀ r σ', Bs h0 r → σ r = none → Ext σ σ' → IsN σ' r x → Q (.ref r) σ') : CC prog w h0 (n + 1) (.ref 65) [.int x, .int 8] σ Q := by
 have hML := Ch
 refine enter G [some (.int x), some (.int 8), none, none] (Uj _) rfl rfl ?_
 refine And.intro (fun e => ?_) (fun e => ?_)
 ·have e := of_decide_eq_true e; exact False.elim (lz 0x2220f0b0700b62 [x] h0' e)
 clear e
 conv => whnf
 intro f τ f1 f2 f3 f4
 refine And.intro (⟨by decide, by decide⟩) (?_)
 conv => whnf
 refine Ba (fun m ρ υ => ∃ c L, ρ = [some (.int c), some (.int 8), some (.ref f), some (.int 255)] ∧ Ext σ υ ∧ υ f = some (iL L) ∧ Lo L ∧ 0 ≤ c ∧ m = c.toNat ∧ val L + 256 ^ L.length * c = x ∧ (L ≠ [] → 256 ^ (L.length - 1) ≤ x)) (fun ρ υ => ∃ L, ρ = [some (.int 0), some (.int 8), some (.ref f), some (.int 255)] ∧ Ext σ υ ∧ υ f = some (iL L) ∧ Lo L ∧ val L = x ∧ (L ≠ [] → 256 ^ (L.length - 1) ≤ x)) (Bn _ x ([]) rfl f3 f4 Lo.nil ⟨h0', rfl, by simp [val], fun q => absurd rfl q⟩) ?_ ?_
 ·rintro m _ υ ⟨c, L, rfl, he, hL, lo, c0, rfl, hv, hg⟩
  refine And.intro (fun e => ?_) (fun e => ?_)
  ·have e := of_decide_eq_true e
   have hge : 256 ^ L.length ≤ x := by
    have := Int.mul_le_mul_of_nonneg_left (show 1 ≤ c by assumption) (Int.le_of_lt (Aw L.length))
    have := Ap lo
    exact lz 0x2222210620b630196132a83 [256 ^ L.length, x, val L, 256 ^ L.length * c] hv ‹_› this
   have hlen : L.length < ML := by
    rcases Nat.lt_or_ge L.length ML with q | q
    ·exact q
    ·have := Ej q; exact lq 0x222201012160261073 [L.length, ML] [x, 256 ^ ML, 256 ^ L.length] hx hge this
   refine And.intro (⟨_, hL⟩) (?_)
   refine iEA _ ⟨f1, hL, by simp; show L.length < 16777216; exact ln 0x222210000007fb011017ffff86fb122 [L.length, ML] hML hlen⟩ ?_
   intro υ' hu1 hu2
   rw [C1 c0, Ck] at hu2
   refine And.intro (rfl) (?_)
   refine And.intro (by decide) (?_)
   rw [P8]
   refine iEA ((c / 256).toNat) (lq 0x21ff3f222003f1fe3f2003f10101e80211003f8a820b610e800b75 [(c / 256).toNat, c.toNat] [c, c / 256, c % 256] e (ltn (c / 256) (lz 0x22122003f00b620b72101003f8a81003fb173 [c / 256, c % 256, c] (Int.emod_lt_of_pos (b := 256) c (by decide)) (Int.mul_ediv_add_emod c 256) e)) (Int.emod_nonneg (b := 256) c (by decide)) (Int.mul_ediv_add_emod c 256) (ltn c (lz 0x22200b600b71 [c] e))) (Fa _ _ rfl (he.but hu1 f2) hu2 (lo.snoc (lz 0x22200b600b61 [c % 256] (Int.emod_nonneg (b := 256) c (by decide))) (lz 0x2221003fb071003fb071 [c % 256] (Int.emod_lt_of_pos (b := 256) c (by decide)))) ⟨lz 0x21222003f00b61201003f8a81003fb2710b73 [c / 256, c, c % 256] e (Int.emod_lt_of_pos (b := 256) c (by decide)) (Int.mul_ediv_add_emod c 256), rfl, ?_, fun _ => by rw [List.length_append, List.length_singleton, Nat.add_sub_cancel]; exact hge⟩)
   rw [B9, List.length_append, List.length_singleton, Cs]
   have e1 := Int.emod_add_mul_ediv c 256
   generalize c / 256 = q at *
   generalize c % 256 = r at *
   subst e1
   grind
  ·have e := of_decide_eq_false e
   have c0' : c = 0 := by exact lz 0x222020b0800ba00b62 [c] c0 e
   subst c0'
   exact Fb L rfl he hL lo ⟨lz 0x122210812090a81 [val L, x, 256 ^ L.length] hv, hg⟩
 ·rintro _ υ ⟨L, rfl, he, hL, lo, hv, hg⟩
  exact hQ f υ f1 f2 he (Ay L hL (Nrm.of_ge lo fun q => by rw [hv]; exact hg q) hv)
include G in
theorem Wy {M : Addr → Prop} {x : Int} {σ : Aa} {Q : V → Aa → Prop} (hM : C6 M σ) (hx : Bnd ML x) (hQ : ∀ t σ', Ext σ σ' → IsS M σ' (.ref t) x → Q (.ref t) σ') : CC prog w h0 (n + 2) (.ref 142) [.int x, .int 8] σ Q := by
 refine enter G [some (.int x), some (.int 8)] (Zx _) rfl rfl ?_
 refine Wz G (o23) hx fun r σ1 r1 r2 r3 r4 => ?_
 conv => whnf
 intro t σ2 t1 t2 t3 t4
 exact hQ t σ2 (r3.trans t3) (Br t r rfl t4 (r4.ext t3) (hM.not r2))
include G in
theorem Zo {M : Addr → Prop} {v : V} {x : Int} {σ : Aa} {Q : V → Aa → Prop} (hv : IsS M σ v x) (hQ : ∀ t σ', Ext σ σ' → IsS M σ' (.ref t) (-x) → Q (.ref t) σ') : CC prog w h0 (n + 2) (.ref 149) [v] σ Q := by
 (refine Be hv fun t a zq0 ht ha hM => ?_; subst zq0)
 refine enter G [some (.ref t)] (Xb _) rfl rfl ?_
 refine ixT ht 0 _ rfl rfl ?_
 refine ixT ht 1 _ rfl rfl ?_
 refine Dl G ha hM ?_ hQ
 by_cases q : x < 0
 ·simp [q]; exact lq 0x22120e0d80d0e81 [x.natAbs] [x] (lnq x (lz 0x2220b060b071 [x] q))
 ·simp [q]; exact lq 0x22120e0800e81 [x.natAbs] [x] (lnn x (lz 0x22200b60b0a1 [x] q))
include G in
theorem Zp {M : Addr → Prop} {v : V} {x : Int} {σ : Aa} {Q : V → Aa → Prop} (hv : IsS M σ v x) (hQ : ∀ t σ', Ext σ σ' → IsS M σ' (.ref t) x.natAbs → Q (.ref t) σ') : CC prog w h0 (n + 1) (.ref 156) [v] σ Q := by
 (refine Be hv fun t a zq0 ht ha hM => ?_; subst zq0)
 refine enter G [some (.ref t)] (Xe _) rfl rfl ?_
 refine ixT ht 1 _ rfl rfl ?_
 conv => whnf
 intro u σ' u1 u2 u3 u4
 refine hQ u σ' u3 (Br u a rfl ?_ (by simpa using ha.ext u3) hM)
 rw [u4, decide_eq_false (by exact ln 0x220b0ea0 [x.natAbs])]
include G in
theorem O2 {M : Addr → Prop} {v : V} {x : Int} {σ : Aa} {Q : V → Aa → Prop} (hv : IsS M σ v x) (hQ : Q (.int (if x = 0 then 0 else if x < 0 then -1 else 1)) σ) : CC prog w h0 (n + 1) (.ref 163) [v] σ Q := by
 (refine Be hv fun t a zq0 ht ha hM => ?_; subst zq0)
 refine zEA ha.list fun l h1 hl => ?_
 refine enter G [some (.ref t)] (Uh _) rfl rfl ?_
 refine ixT ht 1 _ rfl rfl ?_
 refine iEA _ h1 ?_
 conv => whnf
 simp only [List.length_map]
 refine ⟨fun e => ?_, fun e => ?_⟩
 ·have e := of_decide_eq_true e
  conv => whnf
  rw [if_pos (gB hl e)] at hQ
  exact hQ
 ·have e := of_decide_eq_false e
  refine ixT ht 0 _ rfl rfl ?_
  conv => whnf
  rw [if_neg (gA hl e)] at hQ
  refine ⟨fun e => ?_, fun e => ?_⟩
  ·have e := of_decide_eq_true e
   rw [if_pos e] at hQ; exact hQ
  ·have e := of_decide_eq_false e
   rw [if_neg e] at hQ; exact hQ
include G in
theorem I1 {M : Addr → Prop} {v u : V} {x y : Int} {σ : Aa} {Q : V → Aa → Prop} (hv : IsS M σ v x) (hu : IsS M σ u y) (hx : Bnd ML x) (hy : Bnd ML y) (hQ : Q (.int (Dv x y)) σ) : CC prog w h0 (n + 2) (.ref 170) [v, u] σ Q := by
 (refine Be hv fun t a zq0 ht ha hM => ?_; subst zq0)
 (refine Be hu fun t' a' zq0 ht' ha' hM' => ?_; subst zq0)
 refine enter G [some (.ref t), some (.ref t')] (Nu _) rfl rfl ?_
 refine ixT ht 0 _ rfl rfl ?_
 refine ixT ht' 0 _ rfl rfl ?_
 refine And.intro (fun e => ?_) (fun e => ?_)
 ·have e := of_decide_eq_true e
  have e : ¬ (x < 0 ↔ y < 0) := fun q => e (by rw [decide_eq_decide]; exact q)
  refine ixT ht 0 _ rfl rfl ?_
  refine And.intro (fun e2 => ?_) (fun e2 => ?_)
  ·have e2 := of_decide_eq_true e2
   unfold Dv at hQ; rw [if_pos (fZ e e2)] at hQ; exact hQ
  ·have e2 := of_decide_eq_false e2
   unfold Dv at hQ; rw [if_neg (by omega), if_neg (fY e e2)] at hQ; exact hQ
 ·have e := of_decide_eq_false e
  have e : x < 0 ↔ y < 0 := by
   have := Classical.not_not.mp e
   rwa [decide_eq_decide] at this
  refine ixT ht 0 _ rfl rfl ?_
  refine And.intro (fun e2 => ?_) (fun e2 => ?_)
  ·have e2 := of_decide_eq_true e2
   refine ixT ht' 1 _ rfl rfl ?_
   refine ixT ht 1 _ rfl rfl ?_
   refine Ev G ha' ha hy hx ?_
   rw [show Dv (y.natAbs : Int) x.natAbs = Dv x y by unfold Dv; have := e.mp e2; split <;> split <;> (try split) <;> (try split) <;> omega]
   exact hQ
  ·have e2 := of_decide_eq_false e2
   refine ixT ht 1 _ rfl rfl ?_
   refine ixT ht' 1 _ rfl rfl ?_
   refine Ev G ha ha' hx hy ?_
   have : ¬ y < 0 := fun q => e2 (e.mpr q)
   rw [show Dv (x.natAbs : Int) y.natAbs = Dv x y by unfold Dv; split <;> split <;> (try split) <;> (try split) <;> lia]
   exact hQ
include G in
theorem Fi {M : Addr → Prop} {v u : V} {x y : Int} {σ : Aa} {Q : V → Aa → Prop} (hL : C6 M σ) (hv : IsS M σ v x) (hu : IsS M σ u y) (hx : Bnd ML x) (hy : Bnd ML y) (hQ : ∀ t σ', Ext σ σ' → IsS M σ' (.ref t) (x + y) → Q (.ref t) σ') : CC prog w h0 (n + 3) (.ref 177) [v, u, .int 8] σ Q := by
 (refine Be hv fun t a zq0 ht ha hM => ?_; subst zq0)
 (refine Be hu fun t' a' zq0 ht' ha' hM' => ?_; subst zq0)
 refine enter G [some (.ref t), some (.ref t'), some (.int 8)] (Xd _) rfl rfl ?_
 refine ixT ht 0 _ rfl rfl ?_
 refine ixT ht' 0 _ rfl rfl ?_
 refine And.intro (fun e => ?_) (fun e => ?_)
 ·have e := of_decide_eq_true e
  rw [decide_eq_decide] at e
  refine ixT ht 0 _ rfl rfl ?_
  refine ixT ht 1 _ rfl rfl ?_
  refine ixT ht' 1 _ rfl rfl ?_
  refine eI G ha ha' hx hy fun r σ1 r1 r2 r3 r4 => ?_
  refine Dl G r4 (hL.not r2) ?_ fun s σ2 s1 s2 => hQ s σ2 (r3.trans s1) s2
  by_cases q : x < 0
  ·have := e.mp q; simp [q]; exact lq 0x1122221e0ead10a81d1e80d0e82 [x.natAbs, y.natAbs] [x, y] (lnq x (lz 0x2220b060b071 [x] q)) (lnq y (lz 0x2220b060b071 [y] this))
  ·have : ¬ y < 0 := fun z => q (e.mpr z)
   simp [q]; exact lq 0x2221121e0ea10a811e800e82 [x.natAbs, y.natAbs] [x, y] (lnn x (lz 0x22200b60b0a1 [x] q)) (lnn y (lz 0x22200b60b0a1 [y] this))
 ·have e := of_decide_eq_false e
  rw [decide_eq_decide] at e
  refine ixT ht 1 _ rfl rfl ?_
  refine ixT ht' 1 _ rfl rfl ?_
  refine Ev G ha ha' hx hy ?_
  refine And.intro (fun e2 => ?_) (fun e2 => ?_)
  ·have e2 := of_decide_eq_true e2
   have e2 : (x.natAbs : Int) < y.natAbs := by unfold Dv at e2; split at e2 <;> (try split at e2) <;> omega
   refine ixT ht' 0 _ rfl rfl ?_
   refine ixT ht' 1 _ rfl rfl ?_
   refine ixT ht 1 _ rfl rfl ?_
   refine aG G ha' ha hy hx (ln 0x2221e0e61e0e71 [x.natAbs, y.natAbs] e2) fun r σ1 r1 r2 r3 r4 => ?_
   refine Dl G r4 (hL.not r2) ?_ fun s σ2 s1 s2 => hQ s σ2 (r3.trans s1) s2
   by_cases q : y < 0
   ·simp [q]; exact fX e q
   ·simp [q]; lia
  ·have e2 := of_decide_eq_false e2
   have e2 : (y.natAbs : Int) ≤ x.natAbs := by unfold Dv at e2; split at e2 <;> (try split at e2) <;> lia
   refine ixT ht 0 _ rfl rfl ?_
   refine ixT ht 1 _ rfl rfl ?_
   refine ixT ht' 1 _ rfl rfl ?_
   refine aG G ha ha' hx hy (by omega) fun r σ1 r1 r2 r3 r4 => ?_
   refine Dl G r4 (hL.not r2) ?_ fun s σ2 s1 s2 => hQ s σ2 (r3.trans s1) s2
   by_cases q : x < 0
   ·simp [q]; lia
   ·simp [q]; exact fW e q
include G in
theorem Ju {M : Addr → Prop} {v u : V} {x y : Int} {σ : Aa} {Q : V → Aa → Prop} (hL : C6 M σ) (hv : IsS M σ v x) (hu : IsS M σ u y) (hx : Bnd ML x) (hy : Bnd ML y) (hQ : ∀ t σ', Ext σ σ' → IsS M σ' (.ref t) (x - y) → Q (.ref t) σ') : CC prog w h0 (n + 4) (.ref 184) [v, u, .int 8] σ Q := by
 refine enter G [some v, some u, some (.int 8)] (Xa _) rfl rfl ?_
 refine CC.up (n := n + 2) (Zo G hu fun t σ1 t1 t2 => ?_) (ln 0x223b0a2b0a00 [n])
 refine Fi G (hL.ext t1) (hv.ext t1) t2 hx hy.neg fun s σ2 s1 s2 => hQ s σ2 (t1.trans s1) (by rw [Int.sub_eq_add_neg]; exact s2)
include G in
theorem Nf {M : Addr → Prop} {v u : V} {x y : Int} {σ : Aa} {Q : V → Aa → Prop} (hL : C6 M σ) (hv : IsS M σ v x) (hu : IsS M σ u y) (hx : Bnd ML x) (hy : Bnd ML y) (hQ : ∀ t σ', Ext σ σ' → IsS M σ' (.ref t) (x * y) → Q (.ref t) σ') : CC prog w h0 (n + 3) (.ref 191) [v, u, .int 8, .ref 315] σ Q := by
 (refine Be hv fun t a zq0 ht ha hM => ?_; subst zq0)
 (refine Be hu fun t' a' zq0 ht' ha' hM' => ?_; subst zq0)
 refine enter G [some (.ref t), some (.ref t'), some (.int 8), some (.ref 315)] (Xc _) rfl rfl ?_
 refine ixT ht 0 _ rfl rfl ?_
 refine ixT ht' 0 _ rfl rfl ?_
 refine ixT ht 1 _ rfl rfl ?_
 refine ixT ht' 1 _ rfl rfl ?_
 refine Ng G ha ha' hx hy fun r σ1 r1 r2 r3 r4 => ?_
 refine Dl G r4 (hL.not r2) ?_ fun s σ2 s1 s2 => hQ s σ2 (r3.trans s1) s2
 exact Wd x y
end
theorem H5 (x y : Int) : x.tdiv y = if decide (decide (x < 0) ≠ decide (y < 0)) = true then -((x.natAbs : Int) / y.natAbs) else (x.natAbs : Int) / y.natAbs := by
 rw [← Int.tdiv_eq_ediv_of_nonneg (show (0 : Int) ≤ x.natAbs by exact o23)]
 by_cases hx : x < 0 <;> by_cases hy : y < 0
 ·rw [show (x.natAbs : Int) = -x by exact o1 hx, show (y.natAbs : Int) = -y by exact o1 hy, Int.tdiv_neg, Int.neg_tdiv, Int.neg_neg]; simp [hx, hy]
 ·rw [show (x.natAbs : Int) = -x by exact o1 hx, show (y.natAbs : Int) = y by exact o5 hy, Int.neg_tdiv, Int.neg_neg]; simp [hx, hy]
 ·rw [show (x.natAbs : Int) = x by exact o5 hx, show (y.natAbs : Int) = -y by exact o1 hy, Int.tdiv_neg, Int.neg_neg]; simp [hx, hy]
 ·rw [show (x.natAbs : Int) = x by exact o5 hx, show (y.natAbs : Int) = y by (exact o5 hy)]; simp [hx, hy]
theorem Gc (x y : Int) : x.tmod y = if decide (x < 0) = true then -((x.natAbs : Int) % y.natAbs) else (x.natAbs : Int) % y.natAbs := by
 have e : (x.natAbs : Int).tmod y.natAbs = (x.natAbs : Int).tmod y := by
  by_cases hy : y < 0
  ·rw [show (y.natAbs : Int) = -y by exact o1 hy, Int.tmod_neg]
  ·rw [show (y.natAbs : Int) = y by (exact o5 hy)]
 rw [← Int.tmod_eq_emod_of_nonneg (show (0 : Int) ≤ x.natAbs by exact o23), e]
 by_cases hx : x < 0
 ·rw [show (x.natAbs : Int) = -x by exact o1 hx, Int.neg_tmod, Int.neg_neg]; simp [hx]
 ·rw [show (x.natAbs : Int) = x by (exact o5 hx)]; simp [hx]
theorem Qz {x y : Int} (hy : 0 < y) : x = x / y * y + x % y ∧ 0 ≤ x % y ∧ x % y < y :=
 ⟨by rw [Int.mul_comm]; exact (Int.mul_ediv_add_emod x y).symm, Int.emod_nonneg _ (o4 hy), Int.emod_lt_of_pos _ hy⟩
theorem Qw {x y : Int} (hy : 0 < y) (hr : x.tmod y = 0 ∨ ¬ x < 0) : x.fdiv y = x.tdiv y := by
 rw [Cn (Int.le_of_lt hy)]
 by_cases hx : x < 0
 ·have hr := hr.resolve_right (fun q => q hx)
  have a := H5 x y
  have b := Gc x y
  rw [show (x.natAbs : Int) = -x by exact o1 hx, show (y.natAbs : Int) = y by (exact lq 0x122200e800e81 [y.natAbs] [y] (lnn y (lz 0x22200b600b71 [y] hy)))] at a b
  simp [hx, show ¬ y < 0 by (exact lz 0x2220b0a00b71 [y] hy)] at a b
  refine zAA (Qz (x := -x) hy) fun c d e => ?_
  rw [a]
  refine ((Ep (q := -(-x / y)) (c := 0) (d := y) (x := x) (Int.le_refl _) hy ?_).1).symm
  rw [Int.neg_mul]; exact lz 0x1122221210b0da830a1d83d280b283 [-x / y * y, x, x.tmod y, -x % y] hr b c
 ·rw [Int.tdiv_eq_ediv_of_nonneg (by exact lz 0x22200b60b0a1 [x] hx)]
theorem Ts {x y : Int} (hy : 0 < y) (hr : x.tmod y ≠ 0) (hs : x < 0) : x.fdiv y = -((x.natAbs : Int) / y.natAbs + 1) := by
 rw [Cn (Int.le_of_lt hy)]
 have b := Gc x y
 rw [show (x.natAbs : Int) = -x by exact o1 hs, show (y.natAbs : Int) = y by (exact lq 0x122200e800e81 [y.natAbs] [y] (lnn y (lz 0x22200b600b71 [y] hy)))] at b ⊢
 simp [hs] at b
 refine zAA (Qz (x := -x) hy) fun c d e => ?_
 refine ((Ep (q := -(-x / y + 1)) (c := y - -x % y) (d := y) (x := x) (lz 0x22210c0b60171 [y, -x % y] e) (lz 0x2212010c70b271d282 [y, -x % y, x.tmod y] b (Int.lt_iff_le_and_ne.mpr ⟨lz 0x22220b0610b61d082 [x.tmod y, -x % y] b d, hr⟩)) ?_).1).symm
 rw [Int.neg_mul, Int.add_mul]; exact lz 0x1222321c1180ada820a3d81 [-x / y * y, y, -x % y, x] c
noncomputable def Bh (M : Addr → Prop) (σ : Aa) (vs : List V) (xs : List Int) : Prop := vs.length = xs.length ∧ ∀ (i : Nat) v x, vs[i]? = some v → xs[i]? = some x → IsS M σ v x
theorem Bh.ext {M : Addr → Prop} {σ σ' : Aa} {vs : List V} {xs : List Int} (h : Bh M σ vs xs) (e : Ext σ σ') : Bh M σ' vs xs := ⟨h.1, fun i v x h1 h2 => (h.2 i v x h1 h2).ext e⟩
theorem Bh.at {M : Addr → Prop} {σ : Aa} {vs : List V} {xs : List Int} (h : Bh M σ vs xs) {i : Nat} (hi : i < xs.length) : ∃ v, vs[i]? = some v ∧ IsS M σ v (gt xs i) := by
 have : i < vs.length := by rw [h.1]; exact hi
 exact iEA (vs[i]) (List.getElem?_eq_getElem this) (h.2 i _ _ (List.getElem?_eq_getElem this) (Bg hi))
theorem Bh.nil {M : Addr → Prop} {σ : Aa} : Bh M σ [] [] := ⟨rfl, fun i v x h => by simp at h⟩
theorem Bh.snoc {M : Addr → Prop} {σ : Aa} {vs : List V} {xs : List Int} {v : V} {x : Int} (h : Bh M σ vs xs) (hv : IsS M σ v x) : Bh M σ (vs ++ [v]) (xs ++ [x]) := by
 refine ⟨by simp [h.1], fun i u y h1 h2 => ?_⟩
 rcases Nat.lt_or_ge i vs.length with q | q
 ·rw [List.getElem?_append_left q] at h1
  rw [List.getElem?_append_left (by rw [← h.1]; exact q)] at h2
  exact h.2 i u y h1 h2
 ·rw [List.getElem?_append_right q] at h1
  rw [List.getElem?_append_right (by rw [← h.1]; exact q)] at h2
  rw [← h.1] at h2
  rcases Nat.eq_zero_or_pos (i - vs.length) with z | z
  ·rw [z] at h1 h2; cases h1; cases h2; exact hv
  ·rw [List.getElem?_eq_none (by simp; assumption)] at h1; cases h1
noncomputable def Aq : List Int → List Int → Int
 | x :: xs, y :: ys => x * y + Aq xs ys
 | _, _ => 0
theorem Rg {M : Addr → Prop} {σ : Aa} {vs us : List V} {xs ys : List Int} {k : Nat} {it : List V} (h : Bh M σ vs xs) (h' : Bh M σ us ys) (hit : (K9 vs us)[k]? = some it) :
  ∃ v u, it = [v, u] ∧ k < xs.length ∧ k < ys.length ∧ IsS M σ v (gt xs k) ∧ IsS M σ u (gt ys k) := by
 unfold K9 at hit
 rw [List.getElem?_zipWith] at hit
 cases e1 : vs[k]? with
 | none => rw [e1] at hit; cases hit
 | some v =>
  cases e2 : us[k]? with
  | none => rw [e1, e2] at hit; cases hit
  | some u =>
   rw [e1, e2] at hit
   cases hit
   have k1 : k < vs.length := by
    rcases Nat.lt_or_ge k vs.length with q | q
    ·exact q
    ·rw [List.getElem?_eq_none q] at e1; cases e1
   have k2 : k < us.length := by
    rcases Nat.lt_or_ge k us.length with q | q
    ·exact q
    ·rw [List.getElem?_eq_none q] at e2; cases e2
   rw [h.1] at k1
   rw [h'.1] at k2
   exact Fa v u rfl k1 k2 (h.2 k v _ e1 (Bg k1)) (h'.2 k u _ e2 (Bg k2))
theorem Mj {vs us : List V} : (K9 vs us).length = min vs.length us.length := by unfold K9; simp
theorem Oy {xs ys : List Int} {k : Nat} (h1 : k < xs.length) (h2 : k < ys.length) : Aq (xs.take (k + 1)) (ys.take (k + 1)) = Aq (xs.take k) (ys.take k) + gt xs k * gt ys k := by
 induction k generalizing xs ys with
 | zero =>
  match xs, ys, h1, h2 with
  | x :: xs, y :: ys, _, _ => simp [Aq, gt]
 | succ k ih =>
  match xs, ys, h1, h2 with
  | x :: xs, y :: ys, h1, h2 =>
   have := ih (xs := xs) (ys := ys) (by simpa using h1) (by simpa using h2)
   rw [List.take_succ_cons, List.take_succ_cons, Aq, this, List.take_succ_cons, List.take_succ_cons, Aq]
   have e1 : gt (x :: xs) (k + 1) = gt xs k := rfl
   have e2 : gt (y :: ys) (k + 1) = gt ys k := rfl
   rw [e1, e2]; exact lz 0x22210aa21a0a80 [x * y, Aq (List.take k xs) (List.take k ys), gt xs k * gt ys k]
theorem Ln (xs ys : List Int) : Aq (xs.take (min xs.length ys.length)) (ys.take (min xs.length ys.length)) = Aq xs ys := by
 induction xs generalizing ys with
 | nil => simp [Aq]
 | cons x xs ih =>
  cases ys with
  | nil => simp [Aq]
  | cons y ys =>
   rw [List.length_cons, List.length_cons, Nat.succ_min_succ, List.take_succ_cons, List.take_succ_cons, Aq, Aq, ih]
section
variable {h0 : Heap} {prog : Program} {w : World} {mg mb : Str → Option Value} (G : Gd (KK w) h0 mg mb) {n : Nat}
include G in
theorem Ww {M : Addr → Prop} {v u : V} {x y : Int} {σ : Aa} {Q : V → Aa → Prop} (hL : C6 M σ) (hv : IsS M σ v x) (hu : IsS M σ u y) (hx : Bnd (ML - 8) x) (hy : Bnd (ML - 8) y) (hy0 : y ≠ 0)
  (hQ : ∀ t q r σ', Ext σ σ' → σ' t = some (.tup [.ref q, .ref r]) → IsS M σ' (.ref q) (x.tdiv y) → IsS M σ' (.ref r) (x.tmod y) → Q (.ref t) σ') : CC prog w h0 (n + 5) (.ref 198) [v, u, .int 8, .ref 357] σ Q := by
 (refine Be hv fun t a zq0 ht ha hM => ?_; subst zq0)
 (refine Be hu fun t' a' zq0 ht' ha' hM' => ?_; subst zq0)
 refine zEA ha'.list fun l h1 hl => ?_
 refine enter G [some (.ref t), some (.ref t'), some (.int 8), some (.ref 357), none, none] (Zw _) rfl rfl ?_
 refine ixT ht' 1 _ rfl rfl ?_
 refine iEA _ h1 ?_
 conv => whnf
 simp only [List.length_map]
 refine ⟨fun e => ?_, fun e => ?_⟩
 ·have e := of_decide_eq_true e; exact fV hy0 hl e
 clear e
 refine ixT ht 1 _ rfl rfl ?_
 refine ixT ht' 1 _ rfl rfl ?_
 refine Ja G ha ha' hx hy (fU hy0 hl) fun s q r σ1 s1 s2 s3 s4 s5 s6 s7 s8 => ?_
 refine iEA _ ⟨s6, rfl⟩ ?_
 refine ixT (s5 _ _ ht) 0 _ rfl rfl ?_
 refine ixT (s5 _ _ ht') 0 _ rfl rfl ?_
 refine CC.up (n := n + 1) (Dl G s7 (hL.not s3) (H5 x y) fun q' σ2 q1 q2 => ?_) (ln 0x224b0a1b0a00 [n])
 refine ixT (q1 _ _ (s5 _ _ ht)) 0 _ rfl rfl ?_
 refine CC.up (n := n + 1) (Dl G (s8.ext q1) (hL.not s4) (Gc x y) fun r' σ3 r1 r2 => ?_) (ln 0x224b0a1b0a00 [n])
 conv => whnf
 intro u σ4 u1 u2 u3 u4
 exact hQ u q' r' σ4 (((s5.trans q1).trans r1).trans u3) u4 ((q2.ext r1).ext u3) (r2.ext u3)
include G in
theorem cA {M : Addr → Prop} {v u : V} {x y : Int} {σ : Aa} {Q : V → Aa → Prop} (hL : C6 M σ) (hv : IsS M σ v x) (hu : IsS M σ u y) (hx : Bnd (ML - 8) x) (hy : Bnd (ML - 8) y) (hy0 : 0 < y)
  (hQ : ∀ t q r σ', Ext σ σ' → σ' t = some (.tup [.ref q, r]) → IsS M σ' (.ref q) (x.fdiv y) → Q (.ref t) σ') : CC prog w h0 (n + 6) (.ref 205) [v, u, .int 8, .ref 357] σ Q := by
 have hML := Ch
 refine enter G [some v, some u, some (.int 8), some (.ref 357), none, none] (Zy _) rfl rfl ?_
 refine Ww G hL hv hu hx hy (o4 hy0) fun t q r σ1 t1 t2 t3 t4 => ?_
 refine iEA _ ⟨t2, rfl⟩ ?_
 have hv1 := hv.ext t1
 have hu1 := hu.ext t1
 (refine Be hv1 fun tv av zq0 htv hav hMv => ?_; subst zq0)
 (refine Be hu1 fun tu au zq0 htu hau hMu => ?_; subst zq0)
 refine Be t4 fun tr ar er htr har hMr => ?_
 cases er
 refine Be t3 fun tq aq eq htq haq hMq => ?_
 cases eq
 refine zEA har.list fun l h1 hl => ?_
 have plain : (x.tmod y = 0 ∨ ¬ x < 0) → Co (Bs h0) (.tup [.ref q, .ref r]) σ1 Q := fun h => by
  intro t' σ2 s1 s2 s3 s4
  exact hQ t' q _ σ2 (t1.trans s3) s4 (by rw [Qw hy0 h]; exact IsS.ext (Br q aq rfl htq haq hMq) s3)
 refine ixT htr 1 _ rfl rfl ?_
 refine iEA _ h1 ?_
 conv => whnf
 simp only [List.length_map]
 refine ⟨fun e => ?_, fun e => ?_⟩
 ·have e := of_decide_eq_true e
  refine ixT htv 0 _ rfl rfl ?_
  refine ixT htu 0 _ rfl rfl ?_
  refine And.intro (fun e2 => ?_) (fun e2 => ?_)
  ·have e2 := of_decide_eq_true e2
   have hx0 : x < 0 := by
    rcases Int.lt_or_le x 0 with z | z
    ·exact z
    ·exfalso; apply e2; rw [decide_eq_decide]; exact fT hy0 z
   refine ixT htq 1 _ rfl rfl ?_
   refine CC.up (n := n + 1) (Q7 G haq (x := (x.tdiv y).natAbs) (d := 1) ?_ (by decide) (by decide) fun s σ2 s1 s2 s3 s4 => ?_) (ln 0x225b0a1b0a00 [n])
   ·have := Ej (show ML - 8 ≤ ML by exact o54 hML)
    unfold Bnd at hx
    have := Int.natAbs_tdiv_le_natAbs x y
    exact lq 0x2222200e710001611e73 [(x.tdiv y).natAbs, x.natAbs] [256 ^ ML, 256 ^ (ML - 8)] hx ‹_› this
   conv => whnf
   intro z σ3 z1 z2 z3 z4
   conv => whnf
   have hr : Bnd ML (x.tmod y) := by
    have := Ej (show ML - 8 ≤ ML by exact o54 hML)
    have h3 := Gc x y
    unfold Bnd at hx hy ⊢
    refine zAA (Qz (x := (x.natAbs : Int)) (y := y.natAbs) (lq 0x21220e0b700e800b72 [y.natAbs] [y] hy0 (lnn y (lz 0x22200b600b71 [y] hy0)))) fun _ d1 d2 => ?_
    split at h3 <;> omega
   have hLs : C6 M σ3 := ((hL.ext t1).ext s3).ext z3
   refine CC.up (n := n + 3) (Fi G hLs (IsS.ext (Br r ar rfl htr har hMr) (s3.trans z3)) (IsS.ext (Br tu au rfl htu hau hMu) (s3.trans z3)) hr (hy.mono (o54 hML)) fun b σ4 b1 b2 => ?_) (ln 0x225b0a3b0a00 [n])
   conv => whnf
   intro c σ5 c1 c2 c3 c4
   have hz : x.fdiv y = -(((x.tdiv y).natAbs : Int) + 1) := by
    rw [Ts hy0 (fS hl plain e) hx0]
    have := H5 x y
    have q0 : 0 ≤ (x.natAbs : Int) / y.natAbs := Int.ediv_nonneg (ln 0x220e0b60 [x.natAbs]) (ln 0x220e0b60 [y.natAbs])
    split at this <;> exact fR q0 this
   refine hQ c z _ σ5 ((((t1.trans s3).trans z3).trans b1).trans c3) c4 (Br z s rfl ?_ ?_ ?_)
   ·rw [c3 _ _ (b1 _ _ z4), hz, decide_eq_true (by exact ln 0x220b1b0ead70 [(x.tdiv y).natAbs])]
   ·rw [show (((x.fdiv y).natAbs : Nat) : Int) = ((x.tdiv y).natAbs : Int) + 1 by (exact lq 0x1222121b1ea0e80d0e81b1ead082 [(x.fdiv y).natAbs, (x.tdiv y).natAbs] [x.fdiv y] hz (lnq (x.fdiv y) (lq 0x2220b061b0ead081 [(x.tdiv y).natAbs] [x.fdiv y] hz)))]
    exact ((s4.ext z3).ext b1).ext c3
   ·exact (hL.ext t1).not s2
  ·have e2 := of_decide_eq_false e2
   have hx0 : ¬ x < 0 := fun q => e2 (fun z => by
    rw [decide_eq_decide] at z; exact lz 0x2220f00b70b072 [y] (z.mp (lz 0x2220b070b071 [x] q)) hy0)
   exact plain (.inr hx0)
 ·have e := of_decide_eq_false e
  exact ⟨nofun, fun _ => plain (.inl (fQ hl plain e))⟩
include G in
theorem Im {M : Addr → Prop} {v : V} {x : Int} {σ : Aa} {Q : V → Aa → Prop} (hL : C6 M σ) (hv : IsS M σ v x) (hx : Bnd ML x) (hQ : ∀ t σ', Ext σ σ' → IsS M σ' (.ref t) (2 * x) → Q (.ref t) σ') : CC prog w h0 (n + 2) (.ref 212) [v, .int 1, .int 8] σ Q := by
 (refine Be hv fun t a zq0 ht ha hM => ?_; subst zq0)
 refine enter G [some (.ref t), some (.int 1), some (.int 8), none] (Rd _) rfl rfl ?_
 refine And.intro (fun _ => ?_) (fun e => absurd (of_decide_eq_false e) (by decide))
 refine ixT ht 0 _ rfl rfl ?_
 refine ixT ht 1 _ rfl rfl ?_
 refine Fh G (s := 1) ha hx (by decide) fun r σ1 r1 r2 r3 r4 => ?_
 refine Dl G r4 (hL.not r2) ?_ fun s σ2 s1 s2 => hQ s σ2 (r3.trans s1) s2
 by_cases q : x < 0
 ·simp [q]; exact lq 0x32420e29d02880d0e81 [x.natAbs] [x] (lnq x (lz 0x2220b060b071 [x] q))
 ·simp [q]; exact lq 0x42320e29028800e81 [x.natAbs] [x] (lnn x (lz 0x22200b60b0a1 [x] q))
include G in
theorem T5 {M : Addr → Prop} {v u : V} {x y : Int} {σ : Aa} {Q : V → Aa → Prop} (hL : C6 M σ) (hv : IsS M σ v x) (hu : IsS M σ u y) (hx : Bnd (ML - 16) x) (hy : Bnd (ML - 16) y) (hy0 : 0 < y)
  (hQ : ∀ q σ', Ext σ σ' → IsS M σ' (.ref q) ((2 * x + y).fdiv (2 * y)) → Q (.ref q) σ') : CC prog w h0 (n + 7) (.ref 233) [v, u, .int 8, .ref 357] σ Q := by
 have hML := Ch
 have b2 : ∀ z, Bnd (ML - 16) z → Bnd (ML - 15) (2 * z) := fun z h => by
  have := Ej (show ML - 16 ≤ ML - 15 by exact ln 0x21221002f1fb1a22102fb0a22 [ML - 16, ML - 15, ML] (lsc ML 16 (ln 0x2120102fb07ffff86fb021 [ML] hML)) (lsc ML 15 (ln 0x2120f1fb07ffff86fb021 [ML] hML)))
  have e : (256 : Int) ^ (ML - 15) = 256 ^ (ML - 16) * 256 := by rw [← Cs]; congr 1; exact ln 0x2121221b1a022102fb1a22f1fb0a22 [ML - 15, ML - 16, ML] (lsc ML 15 (ln 0x2120f1fb07ffff86fb021 [ML] hML)) (lsc ML 16 (ln 0x2120102fb07ffff86fb021 [ML] hML))
  unfold Bnd at *; exact fP h e
 refine enter G [some v, some u, some (.int 8), some (.ref 357)] (Gs _) rfl rfl ?_
 refine CC.up (n := n + 2) (Im G hL hv (hx.mono (o79 hML)) fun s σ1 s1 s2 => ?_) (ln 0x226b0a2b0a00 [n])
 refine CC.up (n := n + 3) (Fi G (hL.ext s1) s2 (hu.ext s1) ((b2 x hx).mono (ln 0x2221001f1fb0a21 [ML - 15, ML] (lsc ML 15 (ln 0x2120f1fb07ffff86fb021 [ML] hML)))) (hy.mono (o79 hML)) fun a σ2 a1 a2 => ?_) (o80)
 conv => whnf
 have e2 := s1.trans a1
 refine CC.up (n := n + 2) (Im G (hL.ext e2) (hu.ext e2) (hy.mono (o79 hML)) fun c σ3 c1 c2 => ?_) (ln 0x226b0a2b0a00 [n])
 refine cA G ((hL.ext e2).ext c1) (a2.ext c1) c2 ((Bnd.add (b2 x hx) (hy.mono (show ML - 16 ≤ ML - 15 by exact ln 0x21221002f1fb1a22102fb0a22 [ML - 16, ML - 15, ML] (lsc ML 16 (ln 0x2120102fb07ffff86fb021 [ML] hML)) (lsc ML 15 (ln 0x2120f1fb07ffff86fb021 [ML] hML))))).mono (ln 0x212211b0a028b1a22f1fb0a22 [ML - 15, ML - 8, ML] (lsc ML 15 (ln 0x2120f1fb07ffff86fb021 [ML] hML)) (lsc ML 8 (ln 0x21208b07ffff86fb021 [ML] hML)))) ((b2 y hy).mono (ln 0x212210028b1a22f1fb0a22 [ML - 15, ML - 8, ML] (lsc ML 15 (ln 0x2120f1fb07ffff86fb021 [ML] hML)) (lsc ML 8 (ln 0x21208b07ffff86fb021 [ML] hML)))) (lz 0x2420280b700b71 [y] hy0) fun t q r σ4 t1 t2 t3 => ?_
 refine ixT t2 0 _ rfl rfl ?_
 exact hQ q σ4 ((e2.trans c1).trans t1) t3
include G in
theorem eH {M : Addr → Prop} {a b : Addr} {vs us : List V} {xs ys : List Int} {k : Nat} {σ : Aa} {Q : V → Aa → Prop} (hL : C6 M σ) (hN : IsS M σ (.ref 214) 0) (ha : σ a = some (.list vs)) (hb : σ b = some (.list us)) (hv : Bh M σ vs xs) (hu : Bh M σ us ys) (hx : ∀ i, Bnd k (gt xs i)) (hy : ∀ i, Bnd k (gt ys i)) (hk : 2 * k + xs.length ≤ ML)
  (hQ : ∀ t σ', Ext σ σ' → IsS M σ' (.ref t) (Aq xs ys) → Q (.ref t) σ') : CC prog w h0 (n + 4) (.ref 221) [.ref a, .ref b, .int 8, .ref 315] σ Q := by
 refine enter G [some (.ref a), some (.ref b), some (.int 8), some (.ref 315), none, none, none] (cI _) rfl rfl ?_
 refine C5 _ _ ⟨ha, hb⟩ ?_
 refine Ar (fun j ρ υ => ∃ t u1 u2, ρ = [some (.ref a), some (.ref b), some (.int 8), some (.ref 315), some (.ref t), u1, u2] ∧ Ext σ υ ∧ IsS M υ (.ref t) (Aq (xs.take j) (ys.take j)) ∧ Bnd (2 * k + j) (Aq (xs.take j) (ys.take j))) (Nb 214 none none rfl .refl (by simpa [Aq] using hN) (by simp [Aq, Bnd]; exact Aw _)) ?_ ?_ ?_
 ·(refine fun j _ υ => H3 fun t u1 u2 zq0 he _ => ?_; subst zq0)
  exact ⟨he _ _ ha, he _ _ hb⟩
 ·(refine fun j _ υ it => Ri fun t u1 u2 zq0 he ht hbd => ?_; subst zq0; refine fun hit => ?_)
  (refine Ew (Rg (hv.ext he) (hu.ext he) hit) fun v u zq0 j1 j2 i1 i2 => ?_; subst zq0)
  refine Nf G (hL.ext he) i1 i2 ((hx j).mono (ln 0x22410012028a01 [k, ML, xs.length] hk)) ((hy j).mono (ln 0x22410012028a01 [k, ML, xs.length] hk)) fun m σ1 m1 m2 => ?_
  conv => whnf
  have bm : Bnd (2 * k + j) (gt xs j * gt ys j) := (Bnd.mul (hx j) (hy j)).mono (ln 0x221028a00a00 [k, j])
  refine Fi G ((hL.ext he).ext m1) (ht.ext m1) m2 (hbd.mono (ln 0x222221028a031123028a02 [k, j, ML, xs.length] hk j1)) (bm.mono (ln 0x222221028a031123028a02 [k, j, ML, xs.length] hk j1)) fun s σ2 s1 s2 => ?_
  rw [← Oy j1 j2] at s2
  refine Nb s _ _ rfl ((he.trans m1).trans s1) s2 ?_
  rw [Oy j1 j2]
  exact Bnd.add hbd bm
 ·(refine fun _ υ => Ri fun t u1 u2 zq0 he ht hbd => ?_; subst zq0)
  rw [Mj, hv.1, hu.1, Ln] at ht
  exact hQ t υ he ht
noncomputable def C0 (xs ys : List Int) (m : Int) : List Int := List.zipWith (fun x y => x - y * m) xs ys
theorem Qr {xs ys : List Int} {m : Int} {j : Nat} (h1 : j < xs.length) (h2 : j < ys.length) : gt (C0 xs ys m) j = gt xs j - gt ys j * m := by
 have : (C0 xs ys m)[j]? = some (gt xs j - gt ys j * m) := by
  unfold C0
  rw [List.getElem?_zipWith, Bg h1, Bg h2]
 unfold gt
 rw [List.getD_eq_getElem?_getD, this]
 rfl
include G in
theorem Q5 {M : Addr → Prop} {a b : Addr} {vs us : List V} {xs ys : List Int} {m : Int} {vm : V} {k : Nat} {σ : Aa} {Q : V → Aa → Prop} (hL : C6 M σ) (ha : σ a = some (.list vs)) (hb : σ b = some (.list us)) (hv : Bh M σ vs xs) (hu : Bh M σ us ys) (hm : IsS M σ vm m) (hx : ∀ i, Bnd k (gt xs i)) (hy : ∀ i, Bnd k (gt ys i)) (hmb : Bnd k m) (hk : 2 * k + xs.length ≤ ML)
  (hQ : ∀ r vs' σ', Bs h0 r → σ r = none → Ext σ σ' → σ' r = some (.list vs') → Bh M σ' vs' (C0 xs ys m) → Q (.ref r) σ') : CC prog w h0 (n + 5) (.ref 226) [.ref a, .ref b, vm, .int 8, .ref 315] σ Q := by
 have hML := Ch
 refine enter G [some (.ref a), some (.ref b), some vm, some (.int 8), some (.ref 315)] (Pa _) rfl rfl ?_
 refine C5 _ _ ⟨ha, hb⟩ ?_
 refine ⟨by rw [Mj, hv.1, hu.1]; show _ ≤ 16777216; exact ln 0x2222210000007fb002007ffff86fb3232128a03 [min xs.length ys.length, k, xs.length, ML] hk hML (Nat.min_le_left xs.length ys.length), Ar (fun acc υ => Ext σ υ ∧ ∃ zs, Bh M υ acc zs ∧ zs = (C0 xs ys m).take acc.length ∧ acc.length ≤ min xs.length ys.length) ⟨.refl, Ay ([]) .nil rfl (Nat.zero_le _)⟩ ?_ ?_ ?_⟩
 ·refine fun acc υ => yA fun he _ => ?_
  exact ⟨he _ _ ha, he _ _ hb⟩
 ·refine fun acc υ it => Iu fun he zs hz ez hle hit => ?_
  (refine Ew (Rg (hv.ext he) (hu.ext he) hit) fun v u zq0 j1 j2 i1 i2 => ?_; subst zq0)
  refine CC.up (n := n + 3) (Nf G (hL.ext he) i2 (hm.ext he) ((hy _).mono (ln 0x21241007ffff86fb1212028a02 [k, ML, xs.length] hk hML)) (hmb.mono (ln 0x21241007ffff86fb1212028a02 [k, ML, xs.length] hk hML)) fun p σ1 p1 p2 => ?_) (ln 0x224b0a3b0a00 [n])
  refine Ju G ((hL.ext he).ext p1) (i1.ext p1) p2 ((hx _).mono (ln 0x21241007ffff86fb1212028a02 [k, ML, xs.length] hk hML)) ((Bnd.mul (hy acc.length) hmb).mono (ln 0x222100a012028a01 [k, ML, xs.length] hk)) fun s σ2 s1 s2 => ?_
  refine ⟨(he.trans p1).trans s1, Ay (zs ++ [gt xs acc.length - gt ys acc.length * m]) (((hz.ext p1).ext s1).snoc s2) ?_ (by simp; lia)⟩
  rw [List.length_append, List.length_singleton, ez]
  have hlen : acc.length < (C0 xs ys m).length := by unfold C0; rw [List.length_zipWith]; lia
  rw [List.take_succ_eq_append_getElem hlen]
  rw [Dk, Qr j1 j2]
 ·refine fun acc υ => Iu fun he zs hz ez hle hlen => ?_
  intro r σ' r1 r2 r3 r4
  refine hQ r acc σ' r1 (he.none r2) (he.trans r3) r4 ?_
  rw [Mj, hv.1, hu.1] at hlen
  rw [hlen, By (by unfold C0; rw [List.length_zipWith]; exact Nat.le_refl _)] at ez
  subst ez
  exact hz.ext r3
end
@[irreducible] noncomputable def KB : Nat := 262144
theorem Gb : KB = 262144 := by unfold KB; rfl
theorem atx {σ : Aa} {x dx : Addr} {fs : List V} {k : Nat} {v : V} {Q : V → Prop} (h1 : σ x = some (.inst dx)) (h2 : σ dx = some (.dict fs)) (h3 : fs[k]? = some v) (hp : Dq v) (q : Q v) :
  ∃ dx vs v, (σ x = some (.inst dx) ∧ σ dx = some (.dict vs) ∧ vs[k]? = some v ∧ Dq v) ∧ Q v := Ix dx fs v ⟨h1, h2, h3, hp⟩ q
noncomputable def N4 (σ : Aa) (x : Addr) : Prop := ∃ dx fs, σ x = some (.inst dx) ∧ σ dx = some (.dict fs) ∧ fs[3]? = some (.int 8) ∧ fs[4]? = some (.ref 315) ∧ fs[5]? = some (.ref 357)
theorem N4.ext {σ σ' : Aa} {x : Addr} (h : N4 σ x) (e : Ext σ σ') : N4 σ' x := by
 refine Bv h fun dx fs h1 h2 h3 => ?_; exact Ba dx fs (e _ _ h1) (e _ _ h2) h3
theorem N4.inst {σ : Aa} {x : Addr} (h : N4 σ x) : Qo (.ref x) σ := by
 refine Bv h fun dx fs h1 h2 _ => ?_; exact C5 dx fs h1 h2
section
variable {h0 : Heap} {prog : Program} {w : World} {mg mb : Str → Option Value} (G : Gd (KK w) h0 mg mb) {n : Nat}
include G in
theorem A5 {M : Addr → Prop} {s : Addr} {v u : V} {x y : Int} {σ : Aa} {Q : V → Aa → Prop} (hs : N4 σ s) (hL : C6 M σ) (hv : IsS M σ v x) (hu : IsS M σ u y) (hx : Bnd ML x) (hy : Bnd ML y) (hQ : ∀ t σ', Ext σ σ' → IsS M σ' (.ref t) (x * y) → Q (.ref t) σ') :
  CC prog w h0 (n + 4) (.ref 252) [.ref s, v, u] σ Q := by
 refine Ew hs fun dx fs a1 a2 a3 a4 a5 => ?_
 refine enter G [some (.ref s), some v, some u] (Jh _) rfl rfl ?_
 conv => whnf
 refine atx a1 a2 a3 trivial ?_
 conv => whnf
 refine atx a1 a2 a4 trivial ?_
 exact Nf G hL hv hu hx hy hQ
include G in
theorem Jw {M : Addr → Prop} {s : Addr} {v u : V} {x y : Int} {σ : Aa} {Q : V → Aa → Prop} (hs : N4 σ s) (hL : C6 M σ) (hv : IsS M σ v x) (hu : IsS M σ u y) (hx : Bnd (ML - 8) x) (hy : Bnd (ML - 8) y) (hy0 : y ≠ 0) (hQ : ∀ t σ', Ext σ σ' → IsS M σ' (.ref t) (x.tdiv y) → Q (.ref t) σ') :
  CC prog w h0 (n + 6) (.ref 259) [.ref s, v, u] σ Q := by
 refine Ew hs fun dx fs a1 a2 a3 a4 a5 => ?_
 refine enter G [some (.ref s), some v, some u] (Rf _) rfl rfl ?_
 conv => whnf
 refine atx a1 a2 a3 trivial ?_
 conv => whnf
 refine atx a1 a2 a5 trivial ?_
 conv => whnf
 refine Ww G hL hv hu hx hy hy0 fun t q r σ1 t1 t2 t3 t4 => ?_
 conv => whnf
 refine ixT t2 0 _ rfl rfl ?_
 exact hQ q σ1 t1 t3
include G in
theorem Mg {M : Addr → Prop} {s : Addr} {v1 v2 v3 v4 : V} {a b c d : Int} {k : Nat} {σ : Aa} {Q : V → Aa → Prop} (hs : N4 σ s) (hL : C6 M σ) (h1 : IsS M σ v1 a) (h2 : IsS M σ v2 b) (h3 : IsS M σ v3 c) (h4 : IsS M σ v4 d)
  (b1 : Bnd k a) (b2 : Bnd k b) (b3 : Bnd k c) (b4 : Bnd k d) (hk : 2 * k + 16 ≤ ML) (hQ : ∀ t σ', Ext σ σ' → IsS M σ' (.ref t) (a * b - c * d) → Q (.ref t) σ') :
  CC prog w h0 (n + 5) (.ref 266) [.ref s, v1, v2, v3, v4] σ Q := by
 refine enter G [some (.ref s), some v1, some v2, some v3, some v4] (N1 _) rfl rfl ?_
 conv => whnf
 refine ⟨hs.inst, ?_⟩
 conv => whnf
 refine A5 G hs hL h1 h2 (b1.mono (o58 hk)) (b2.mono (o58 hk)) fun t σ1 t1 t2 => ?_
 conv => whnf
 refine ⟨(hs.ext t1).inst, ?_⟩
 conv => whnf
 refine A5 G (hs.ext t1) (hL.ext t1) (h3.ext t1) (h4.ext t1) (b3.mono (o58 hk)) (b4.mono (o58 hk)) fun u σ2 u1 u2 => ?_
 have e2 := t1.trans u1
 refine Ew (hs.ext e2) fun dx fs a1 a2 a3 a4 a5 => ?_
 conv => whnf
 refine atx a1 a2 a3 trivial ?_
 conv => whnf
 exact Ju G (hL.ext e2) (t2.ext u1) u2 ((Bnd.mul b1 b2).mono (ln 0x222100a01102fb028a01 [k, ML] hk)) ((Bnd.mul b3 b4).mono (ln 0x222100a01102fb028a01 [k, ML] hk)) fun z σ3 z1 z2 => hQ z σ3 (e2.trans z1) z2
end
structure LA where
 dx : Addr
 aR : Addr
 aS : Addr
 aP : Addr
 vt : V
 vb : V
 rs : List Addr
 ps : List Addr
structure LC where
 rows : List (List Int)
 sizes : List Int
 parts : List (List Int)
 top : Int
 bot : Int
noncomputable def Dn (M : Addr → Prop) (σ : Aa) (as : List Addr) (ls : List (List Int)) : Prop := as.length = ls.length ∧ ∀ (i : Nat) a l, as[i]? = some a → ls[i]? = some l → ∃ vs, σ a = some (.list vs) ∧ Bh M σ vs l
theorem Dn.ext {M : Addr → Prop} {σ σ' : Aa} {as : List Addr} {ls : List (List Int)} (h : Dn M σ as ls) (e : Ext σ σ') : Dn M σ' as ls :=
 ⟨h.1, fun i a l h1 h2 => by refine zEA (h.2 i a l h1 h2) fun vs q1 q2 => ?_; exact iEA vs (e _ _ q1) (q2.ext e)⟩
structure Ae (h0 : Heap) (M : Addr → Prop) (σ : Aa) (s : Addr) (A : LA) (L : LC) : Prop where
 inst : σ s = some (.inst A.dx)
 dict : σ A.dx = some (.dict [.ref A.aR, A.vt, A.vb, .int 8, .ref 315, .ref 357, .ref A.aS, .ref A.aP])
 rows : σ A.aR = some (.list (A.rs.map .ref))
 rowsL : Dn M σ A.rs L.rows
 sizes : ∃ ss, σ A.aS = some (.list ss) ∧ Bh M σ ss L.sizes
 parts : σ A.aP = some (.list (A.ps.map .ref))
 partsL : Dn M σ A.ps L.parts
 top : IsS M σ A.vt L.top
 bot : IsS M σ A.vb L.bot
 nought : IsS M σ (.ref 214) 0
 live : C6 M σ
 mu : M A.aR ∧ M A.aS ∧ M A.aP ∧ ∀ p ∈ A.ps, M p
 nd : (A.aR :: A.aS :: A.aP :: A.ps).Nodup
 rsM : ∀ r ∈ A.rs, ¬ M r
 bs : Bs h0 A.aR ∧ Bs h0 A.aS ∧ Bs h0 A.aP ∧ ∀ p ∈ A.ps, Bs h0 p
section
variable {h0 : Heap} {M : Addr → Prop} {σ σ' : Aa} {s : Addr} {A : LA} {L : LC}
theorem Ae.ext (h : Ae h0 M σ s A L) (e : Ext σ σ') : Ae h0 M σ' s A L :=
 { h with inst := e _ _ h.inst, dict := e _ _ h.dict, rows := e _ _ h.rows, rowsL := h.rowsL.ext e, sizes := by refine zEA h.sizes fun ss a b => ?_; exact iEA ss (e _ _ a) (b.ext e), parts := e _ _ h.parts, partsL := h.partsL.ext e, top := h.top.ext e, bot := h.bot.ext e, nought := h.nought.ext e, live := h.live.ext e }
theorem Ae.self (h : Ae h0 M σ s A L) : N4 σ s := Fa A.dx _ h.inst h.dict rfl rfl rfl
theorem IsS.plain {v : V} {z : Int} (h : IsS M σ v z) : Dq v := by (refine Ei h fun t a zq0 _ => ?_; subst zq0); trivial
theorem Ae.aRx (h : Ae h0 M σ s A L) {Q : V → Prop} (q : Q (.ref A.aR)) : ∃ dx vs v, (σ s = some (.inst dx) ∧ σ dx = some (.dict vs) ∧ vs[0]? = some v ∧ Dq v) ∧ Q v := atx h.inst h.dict rfl trivial q
theorem Ae.vtx (h : Ae h0 M σ s A L) {Q : V → Prop} (q : Q A.vt) : ∃ dx vs v, (σ s = some (.inst dx) ∧ σ dx = some (.dict vs) ∧ vs[1]? = some v ∧ Dq v) ∧ Q v := atx h.inst h.dict rfl h.top.plain q
theorem Ae.vbx (h : Ae h0 M σ s A L) {Q : V → Prop} (q : Q A.vb) : ∃ dx vs v, (σ s = some (.inst dx) ∧ σ dx = some (.dict vs) ∧ vs[2]? = some v ∧ Dq v) ∧ Q v := atx h.inst h.dict rfl h.bot.plain q
theorem Ae.wx (h : Ae h0 M σ s A L) {Q : V → Prop} (q : Q (.int 8)) : ∃ dx vs v, (σ s = some (.inst dx) ∧ σ dx = some (.dict vs) ∧ vs[3]? = some v ∧ Dq v) ∧ Q v := atx h.inst h.dict rfl trivial q
theorem Ae.mulx (h : Ae h0 M σ s A L) {Q : V → Prop} (q : Q (.ref 315)) : ∃ dx vs v, (σ s = some (.inst dx) ∧ σ dx = some (.dict vs) ∧ vs[4]? = some v ∧ Dq v) ∧ Q v := atx h.inst h.dict rfl trivial q
theorem Ae.divx (h : Ae h0 M σ s A L) {Q : V → Prop} (q : Q (.ref 357)) : ∃ dx vs v, (σ s = some (.inst dx) ∧ σ dx = some (.dict vs) ∧ vs[5]? = some v ∧ Dq v) ∧ Q v := atx h.inst h.dict rfl trivial q
theorem Ae.aSx (h : Ae h0 M σ s A L) {Q : V → Prop} (q : Q (.ref A.aS)) : ∃ dx vs v, (σ s = some (.inst dx) ∧ σ dx = some (.dict vs) ∧ vs[6]? = some v ∧ Dq v) ∧ Q v := atx h.inst h.dict rfl trivial q
theorem Ae.aPx (h : Ae h0 M σ s A L) {Q : V → Prop} (q : Q (.ref A.aP)) : ∃ dx vs v, (σ s = some (.inst dx) ∧ σ dx = some (.dict vs) ∧ vs[7]? = some v ∧ Dq v) ∧ Q v := atx h.inst h.dict rfl trivial q
noncomputable def gl (l : List (List Int)) (i : Nat) : List Int := l.getD i []
theorem Fd {l : List (List Int)} {j : Nat} (h : j < l.length) : l[j]? = some (gl l j) := by unfold gl; rw [List.getD_eq_getElem?_getD, List.getElem?_eq_getElem h]; rfl
noncomputable def ga (l : List Addr) (i : Nat) : Addr := l.getD i 0
theorem Bz {l : List Addr} {j : Nat} (h : j < l.length) : l[j]? = some (ga l j) := by unfold ga; rw [List.getD_eq_getElem?_getD, List.getElem?_eq_getElem h]; rfl
theorem D7 {l : List Addr} {j : Nat} (h : j < l.length) : ga l j ∈ l := List.mem_of_getElem? (Bz h)
theorem Dn.at {as : List Addr} {ls : List (List Int)} (h : Dn M σ as ls) {i : Nat} (hi : i < ls.length) : as[i]? = some (ga as i) ∧ ∃ vs, σ (ga as i) = some (.list vs) ∧ Bh M σ vs (gl ls i) := by
 have : i < as.length := by rw [h.1]; exact hi
 exact ⟨Bz this, h.2 i _ _ (Bz this) (Fd hi)⟩
theorem ixR {x : Addr} {l : List Addr} {n : Int} {Q : V → Prop} (h : σ x = some (.list (l.map .ref))) (j : Nat) (hn : n = (j : Int)) (hj : j < l.length) (q : Q (.ref (ga l j))) :
  ∃ xs j v, ((σ x = some (.list xs) ∨ σ x = some (.tup xs)) ∧ Ib n xs.length j ∧ xs[j]? = some v) ∧ Q v :=
 (Ix _ j _ ⟨.inl h, .inl hn, by rw [List.getElem?_map, Bz hj]; rfl⟩ q)
theorem Ae.len_rs (h : Ae h0 M σ s A L) : A.rs.length = L.rows.length := h.rowsL.1
theorem Ae.len_ps (h : Ae h0 M σ s A L) : A.ps.length = L.parts.length := h.partsL.1
theorem IsS.but {x : Addr} {l : List V} {v : V} {z : Int} (h : IsS M σ v z) (hx : M x) (hl : σ x = some (.list l)) (e : Ag x σ σ') : IsS M σ' v z := by
 (refine Be h fun t a h1 h2 zq0 h5 => ?_; refine zEA zq0 fun li h3 h4 => ?_)
 exact Br t a h1 (e _ _ (fun q => by rw [q, hl] at h2; cases h2) h2) (iEA li (e _ _ (fun q => h5 (q ▸ hx)) h3) h4) h5
theorem Bh.but {x : Addr} {l : List V} {vs : List V} {xs : List Int} (h : Bh M σ vs xs) (hx : M x) (hl : σ x = some (.list l)) (e : Ag x σ σ') : Bh M σ' vs xs := ⟨h.1, fun i v y h1 h2 => (h.2 i v y h1 h2).but hx hl e⟩
theorem Dn.but {x : Addr} {l : List V} {as : List Addr} {ls : List (List Int)} (h : Dn M σ as ls) (hx : M x) (hl : σ x = some (.list l)) (e : Ag x σ σ') (hn : x ∉ as) : Dn M σ' as ls :=
 ⟨h.1, fun i a r h1 h2 => by
  refine zEA (h.2 i a r h1 h2) fun vs q1 q2 => ?_
  exact iEA vs (e _ _ (fun q => hn (q ▸ List.mem_of_getElem? h1)) q1) (q2.but hx hl e)⟩
theorem C6.but {x : Addr} {o : Ed} (h : C6 M σ) (e : Ag x σ σ') (hx : σ' x = some o) : C6 M σ' := fun m hm => by
 by_cases q : m = x
 ·rw [q, hx]; simp
 ·cases z : σ m with
  | none => exact absurd z (h m hm)
  | some o => rw [e _ _ q z]; simp
theorem Bh.set {vs : List V} {xs : List Int} {j : Nat} {v : V} {z : Int} (h : Bh M σ vs xs) (hv : IsS M σ v z) : Bh M σ (vs.set j v) (xs.set j z) := by
 refine ⟨by simp [h.1], fun i u y h1 h2 => ?_⟩
 by_cases q : j = i
 ·subst q
  rw [List.getElem?_set_self'] at h1 h2
  cases e1 : vs[j]? with
  | none => rw [e1] at h1; cases h1
  | some a =>
   cases e2 : xs[j]? with
   | none => rw [e2] at h2; cases h2
   | some b => rw [e1] at h1; rw [e2] at h2; cases h1; cases h2; exact hv
 ·rw [List.getElem?_set_ne q] at h1 h2; exact h.2 i u y h1 h2
theorem Dn.set {as : List Addr} {ls : List (List Int)} {j : Nat} {a : Addr} {l : List Int} (h : Dn M σ as ls) (ha : ∃ vs, σ a = some (.list vs) ∧ Bh M σ vs l) : Dn M σ (as.set j a) (ls.set j l) := by
 refine ⟨by simp [h.1], fun i u y h1 h2 => ?_⟩
 by_cases q : j = i
 ·subst q
  rw [List.getElem?_set_self'] at h1 h2
  cases e1 : as[j]? with
  | none => rw [e1] at h1; cases h1
  | some b =>
   cases e2 : ls[j]? with
   | none => rw [e2] at h2; cases h2
   | some c => rw [e1] at h1; rw [e2] at h2; cases h1; cases h2; exact ha
 ·rw [List.getElem?_set_ne q] at h1 h2; exact h.2 i u y h1 h2
theorem Ci {a b c : Addr} {l : List Addr} (h : (a :: b :: c :: l).Nodup) : a ≠ b ∧ a ≠ c ∧ b ≠ c ∧ a ∉ l ∧ b ∉ l ∧ c ∉ l ∧ l.Nodup := by
 simp only [List.nodup_cons, List.mem_cons, not_or] at h
 exact ⟨h.1.1, h.1.2.1, h.2.1.1, h.1.2.2, h.2.1.2, h.2.2.1, h.2.2.2⟩
theorem Ae.setRow (h : Ae h0 M σ s A L) {k : Nat} {r : Addr} {vs : List V} {l : List Int} (hr : σ r = some (.list vs)) (hv : Bh M σ vs l) (hM : ¬ M r) (e : Ag A.aR σ σ') (e' : σ' A.aR = some (.list ((A.rs.map .ref).set k (.ref r)))) :
  Ae h0 M σ' s { A with rs := A.rs.set k r } { L with rows := L.rows.set k l } := by
 refine Dc (Ci h.nd) fun n1 n2 n3 n4 n5 n6 n7 => ?_
 have hx := h.mu.1
 have hl := h.rows
 refine { inst := e _ _ (fun q => by have := h.inst; rw [q, hl] at this; cases this) h.inst, dict := e _ _ (fun q => by have := h.dict; rw [q, hl] at this; cases this) h.dict, rows := by rw [e', List.map_set], rowsL := ?_, sizes := ?_, parts := e _ _ (Ne.symm n2) h.parts, partsL := h.partsL.but hx hl e n4, top := h.top.but hx hl e, bot := h.bot.but hx hl e, nought := h.nought.but hx hl e, live := h.live.but e e', mu := h.mu, nd := h.nd, rsM := fun q hq => ?_, bs := h.bs }
 ·exact (h.rowsL.but hx hl e fun q => h.rsM _ q hx).set (iEA vs (e _ _ (fun q => hM (q ▸ hx)) hr) (hv.but hx hl e))
 ·refine zEA h.sizes fun ss a b => ?_
  exact iEA ss (e _ _ (Ne.symm n1) a) (b.but hx hl e)
 ·rcases List.mem_or_eq_of_mem_set hq with q | q
  ·exact h.rsM _ q
  ·subst q; exact hM
theorem Ae.setPart (h : Ae h0 M σ s A L) {k j : Nat} {v : V} {z : Int} {vs : List V} (hk : k < L.parts.length) (hvs : σ (ga A.ps k) = some (.list vs)) (hS : Bh M σ vs (gl L.parts k)) (hv : IsS M σ v z) (e : Ag (ga A.ps k) σ σ') (e' : σ' (ga A.ps k) = some (.list (vs.set j v))) :
  Ae h0 M σ' s A { L with parts := L.parts.set k ((gl L.parts k).set j z) } := by
 refine Dc (Ci h.nd) fun n1 n2 n3 n4 n5 n6 n7 => ?_
 have hk' : k < A.ps.length := by rw [h.len_ps]; exact hk
 have hm := D7 hk'
 have hx := h.mu.2.2.2 _ hm
 have ne : ∀ a, a ∉ A.ps → a ≠ ga A.ps k := fun a ha q => ha (by rw [q]; exact hm)
 refine { inst := e _ _ (fun q => by have := h.inst; rw [q, hvs] at this; cases this) h.inst, dict := e _ _ (fun q => by have := h.dict; rw [q, hvs] at this; cases this) h.dict, rows := e _ _ (ne _ n4) h.rows, rowsL := h.rowsL.but hx hvs e fun q => h.rsM _ q hx, sizes := ?_, parts := e _ _ (ne _ n6) h.parts, partsL := ?_, top := h.top.but hx hvs e, bot := h.bot.but hx hvs e, nought := h.nought.but hx hvs e, live := h.live.but e e', mu := h.mu, nd := h.nd, rsM := h.rsM, bs := h.bs }
 ·refine zEA h.sizes fun ss a b => ?_
  exact iEA ss (e _ _ (ne _ n5) a) (b.but hx hvs e)
 ·refine ⟨by simp [h.partsL.1], fun i a l h1 h2 => ?_⟩
  by_cases q : k = i
  ·subst q
   rw [Bz hk'] at h1
   rw [List.getElem?_set_self hk] at h2
   cases h1; cases h2
   exact iEA _ e' ((hS.but hx hvs e).set (hv.but hx hvs e))
  ·rw [List.getElem?_set_ne q] at h2
   refine zEA (h.partsL.2 i a l h1 h2) fun us u1 u2 => ?_
   refine iEA us (e _ _ (fun z => q ?_) u1) (u2.but hx hvs e)
   have hi : i < A.ps.length := by
    rcases Nat.lt_or_ge i A.ps.length with w | w
    ·exact w
    ·rw [List.getElem?_eq_none w] at h1; cases h1
   have a1 := Bz hk'
   rw [← z] at a1
   exact (List.getElem?_inj hk' n7).mp (a1.trans h1.symm)
theorem Ae.setSize (h : Ae h0 M σ s A L) {k : Nat} {v : V} {z : Int} {ss : List V} (hss : σ A.aS = some (.list ss)) (hS : Bh M σ ss L.sizes) (hv : IsS M σ v z) (e : Ag A.aS σ σ') (e' : σ' A.aS = some (.list (ss.set k v))) :
  Ae h0 M σ' s A { L with sizes := L.sizes.set k z } := by
 refine Dc (Ci h.nd) fun n1 n2 n3 n4 n5 n6 n7 => ?_
 have hx := h.mu.2.1
 exact { inst := e _ _ (fun q => by have := h.inst; rw [q, hss] at this; cases this) h.inst, dict := e _ _ (fun q => by have := h.dict; rw [q, hss] at this; cases this) h.dict, rows := e _ _ n1 h.rows, rowsL := h.rowsL.but hx hss e fun q => h.rsM _ q hx, sizes := iEA _ e' ((hS.but hx hss e).set (hv.but hx hss e)), parts := e _ _ (Ne.symm n3) h.parts, partsL := h.partsL.but hx hss e n5, top := h.top.but hx hss e, bot := h.bot.but hx hss e, nought := h.nought.but hx hss e, live := h.live.but e e', mu := h.mu, nd := h.nd, rsM := h.rsM, bs := h.bs }
theorem IsS.more {r : Addr} {v : V} {z : Int} (h : IsS M σ v z) (hr : σ r = none) : IsS (fun m => M m ∨ m = r) σ v z := by
 (refine Be h fun t a h1 h2 zq0 h5 => ?_; refine zEA zq0 fun li h3 h4 => ?_)
 exact Br t a h1 h2 (iEA li h3 h4) (fun q => by
  rcases q with q | q
  ·exact h5 q
  ·rw [q, hr] at h3; cases h3)
theorem Bh.more {r : Addr} {vs : List V} {xs : List Int} (h : Bh M σ vs xs) (hr : σ r = none) : Bh (fun m => M m ∨ m = r) σ vs xs := ⟨h.1, fun i v y h1 h2 => (h.2 i v y h1 h2).more hr⟩
theorem Dn.more {r : Addr} {as : List Addr} {ls : List (List Int)} (h : Dn M σ as ls) (hr : σ r = none) : Dn (fun m => M m ∨ m = r) σ as ls :=
 ⟨h.1, fun i a l h1 h2 => by refine zEA (h.2 i a l h1 h2) fun vs q1 q2 => ?_; exact iEA vs q1 (q2.more hr)⟩
theorem Ae.more (h : Ae h0 M σ s A L) {r : Addr} {o : Ed} (hr : σ r = none) (e : Ext σ σ') (e' : σ' r = some o) : Ae h0 (fun m => M m ∨ m = r) σ' s A L := by
 refine { inst := e _ _ h.inst, dict := e _ _ h.dict, rows := e _ _ h.rows, rowsL := (h.rowsL.more hr).ext e, sizes := by refine zEA h.sizes fun ss a b => ?_; exact iEA ss (e _ _ a) ((b.more hr).ext e), parts := e _ _ h.parts, partsL := (h.partsL.more hr).ext e, top := (h.top.more hr).ext e, bot := (h.bot.more hr).ext e, nought := (h.nought.more hr).ext e, live := fun m hm => ?_, mu := ⟨.inl h.mu.1, .inl h.mu.2.1, .inl h.mu.2.2.1, fun p hp => .inl (h.mu.2.2.2 p hp)⟩, nd := h.nd, rsM := fun q hq z => ?_, bs := h.bs }
 ·rcases hm with hm | hm
  ·exact h.live.ext e m hm
  ·rw [hm, e']; simp
 ·rcases z with z | z
  ·exact h.rsM q hq z
  ·obtain ⟨i, hi, rfl⟩ := List.getElem_of_mem hq
   have h1 := List.getElem?_eq_getElem hi
   have h2 : i < L.rows.length := by rw [← h.rowsL.1]; exact hi
   refine zEA (h.rowsL.2 i _ _ h1 (Fd h2)) fun vs q1 _ => ?_
   rw [z, hr] at q1; cases q1
theorem Eg {l : List Addr} {k : Nat} {p x : Addr} (h : x ∈ l.set k p) : x ∈ l ∨ x = p := List.mem_or_eq_of_mem_set h
theorem Tl {l : List Addr} {k : Nat} {p : Addr} (h : l.Nodup) (hp : p ∉ l) : (l.set k p).Nodup := by
 induction l generalizing k with
 | nil => simp
 | cons a r ih =>
  rw [List.nodup_cons] at h
  cases k with
  | zero => rw [List.set_cons_zero, List.nodup_cons]; exact ⟨fun q => hp (.tail _ q), h.2⟩
  | succ k =>
   rw [List.set_cons_succ, List.nodup_cons]
   refine ⟨fun q => ?_, ih h.2 fun q => hp (.tail _ q)⟩
   rcases Eg q with q | q
   ·exact h.1 q
   ·exact hp (by rw [q]; exact .head _)
theorem Ol {a b c : Addr} {l : List Addr} (h1 : a ≠ b) (h2 : a ≠ c) (h3 : b ≠ c) (h4 : a ∉ l) (h5 : b ∉ l) (h6 : c ∉ l) (h7 : l.Nodup) : (a :: b :: c :: l).Nodup := by
 simp only [List.nodup_cons, List.mem_cons, not_or]
 exact ⟨⟨h1, h2, h4⟩, ⟨h3, h5⟩, h6, h7⟩
theorem Qh {l : List Addr} {p : Addr} (h : l.Nodup) (hp : p ∉ l) : (l ++ [p]).Nodup := by
 rw [List.nodup_append]
 exact ⟨h, by simp, fun a ha b hb q => hp (by rw [List.mem_singleton.mp hb] at q; exact q ▸ ha)⟩
theorem Ae.setParts (h : Ae h0 M σ s A L) {k : Nat} {p : Addr} {vs : List V} {l : List Int} (hp : σ p = some (.list vs)) (hv : Bh M σ vs l) (hM : M p) (hB : Bs h0 p) (hn : p ∉ A.aR :: A.aS :: A.aP :: A.ps) (e : Ag A.aP σ σ') (e' : σ' A.aP = some (.list ((A.ps.map .ref).set k (.ref p)))) :
  Ae h0 M σ' s { A with ps := A.ps.set k p } { L with parts := L.parts.set k l } := by
 refine Dc (Ci h.nd) fun n1 n2 n3 n4 n5 n6 n7 => ?_
 simp only [List.mem_cons, not_or] at hn
 refine G1 hn fun p1 p2 p3 p4 => ?_
 have hx := h.mu.2.2.1
 have hl := h.parts
 have sub : ∀ a, a ∉ A.ps → a ≠ p → a ∉ A.ps.set k p := fun a ha hp q => by rcases Eg q with q | q; exact ha q; exact hp q
 refine { inst := e _ _ (fun q => by have := h.inst; rw [q, hl] at this; cases this) h.inst, dict := e _ _ (fun q => by have := h.dict; rw [q, hl] at this; cases this) h.dict, rows := e _ _ n2 h.rows, rowsL := h.rowsL.but hx hl e fun q => h.rsM _ q hx, sizes := ?_, parts := by rw [e', List.map_set], partsL := (h.partsL.but hx hl e n6).set (iEA vs (e _ _ p3 hp) (hv.but hx hl e)), top := h.top.but hx hl e, bot := h.bot.but hx hl e, nought := h.nought.but hx hl e, live := h.live.but e e', mu := ⟨h.mu.1, h.mu.2.1, h.mu.2.2.1, fun q hq => ?_⟩, nd := ?_, rsM := h.rsM, bs := ⟨h.bs.1, h.bs.2.1, h.bs.2.2.1, fun q hq => ?_⟩ }
 ·refine zEA h.sizes fun ss a b => ?_
  exact iEA ss (e _ _ n3 a) (b.but hx hl e)
 ·rcases Eg hq with q | q
  ·exact h.mu.2.2.2 _ q
  ·rw [q]; exact hM
 ·exact Ol n1 n2 n3 (sub _ n4 (Ne.symm p1)) (sub _ n5 (Ne.symm p2)) (sub _ n6 (Ne.symm p3)) (Tl n7 p4)
 ·rcases Eg hq with q | q
  ·exact h.bs.2.2.2 _ q
  ·rw [q]; exact hB
theorem Ae.appParts (h : Ae h0 M σ s A L) {p : Addr} {vs : List V} {l : List Int} (hp : σ p = some (.list vs)) (hv : Bh M σ vs l) (hM : M p) (hB : Bs h0 p) (hn : p ∉ A.aR :: A.aS :: A.aP :: A.ps) (e : Ag A.aP σ σ') (e' : σ' A.aP = some (.list (A.ps.map .ref ++ [.ref p]))) :
  Ae h0 M σ' s { A with ps := A.ps ++ [p] } { L with parts := L.parts ++ [l] } := by
 refine Dc (Ci h.nd) fun n1 n2 n3 n4 n5 n6 n7 => ?_
 simp only [List.mem_cons, not_or] at hn
 refine G1 hn fun p1 p2 p3 p4 => ?_
 have hx := h.mu.2.2.1
 have hl := h.parts
 have sub : ∀ a, a ∉ A.ps → a ≠ p → a ∉ A.ps ++ [p] := fun a ha hp q => by
  rcases List.mem_append.mp q with q | q
  ·exact ha q
  ·exact hp (List.mem_singleton.mp q)
 refine { inst := e _ _ (fun q => by have := h.inst; rw [q, hl] at this; cases this) h.inst, dict := e _ _ (fun q => by have := h.dict; rw [q, hl] at this; cases this) h.dict, rows := e _ _ n2 h.rows, rowsL := h.rowsL.but hx hl e fun q => h.rsM _ q hx, sizes := ?_, parts := by rw [e', List.map_append]; rfl, partsL := ?_, top := h.top.but hx hl e, bot := h.bot.but hx hl e, nought := h.nought.but hx hl e, live := h.live.but e e', mu := ⟨h.mu.1, h.mu.2.1, h.mu.2.2.1, fun q hq => ?_⟩, nd := ?_, rsM := h.rsM, bs := ⟨h.bs.1, h.bs.2.1, h.bs.2.2.1, fun q hq => ?_⟩ }
 ·refine zEA h.sizes fun ss a b => ?_
  exact iEA ss (e _ _ n3 a) (b.but hx hl e)
 ·have hb := h.partsL.but hx hl e n6
  refine ⟨by simp [hb.1], fun i a r h1 h2 => ?_⟩
  rcases Nat.lt_or_ge i A.ps.length with q | q
  ·rw [List.getElem?_append_left q] at h1
   rw [List.getElem?_append_left (by rw [← hb.1]; exact q)] at h2
   exact hb.2 i a r h1 h2
  ·rw [List.getElem?_append_right q] at h1
   rw [List.getElem?_append_right (by rw [← hb.1]; exact q), ← hb.1] at h2
   rcases Nat.eq_zero_or_pos (i - A.ps.length) with z | z
   ·rw [z] at h1 h2; cases h1; cases h2; exact iEA vs (e _ _ p3 hp) (hv.but hx hl e)
   ·rw [List.getElem?_eq_none (by simp; assumption)] at h1; cases h1
 ·rcases List.mem_append.mp hq with q | q
  ·exact h.mu.2.2.2 _ q
  ·rw [List.mem_singleton.mp q]; exact hM
 ·exact Ol n1 n2 n3 (sub _ n4 (Ne.symm p1)) (sub _ n5 (Ne.symm p2)) (sub _ n6 (Ne.symm p3)) (Qh n7 p4)
 ·rcases List.mem_append.mp hq with q | q
  ·exact h.bs.2.2.2 _ q
  ·rw [List.mem_singleton.mp q]; exact hB
theorem Ae.appPart (h : Ae h0 M σ s A L) {k : Nat} {v : V} {z : Int} {vs : List V} (hk : k < L.parts.length) (hvs : σ (ga A.ps k) = some (.list vs)) (hS : Bh M σ vs (gl L.parts k)) (hv : IsS M σ v z) (e : Ag (ga A.ps k) σ σ') (e' : σ' (ga A.ps k) = some (.list (vs ++ [v]))) :
  Ae h0 M σ' s A { L with parts := L.parts.set k (gl L.parts k ++ [z]) } := by
 refine Dc (Ci h.nd) fun n1 n2 n3 n4 n5 n6 n7 => ?_
 have hk' : k < A.ps.length := by rw [h.len_ps]; exact hk
 have hm := D7 hk'
 have hx := h.mu.2.2.2 _ hm
 have ne : ∀ a, a ∉ A.ps → a ≠ ga A.ps k := fun a ha q => ha (by rw [q]; exact hm)
 refine { inst := e _ _ (fun q => by have := h.inst; rw [q, hvs] at this; cases this) h.inst, dict := e _ _ (fun q => by have := h.dict; rw [q, hvs] at this; cases this) h.dict, rows := e _ _ (ne _ n4) h.rows, rowsL := h.rowsL.but hx hvs e fun q => h.rsM _ q hx, sizes := ?_, parts := e _ _ (ne _ n6) h.parts, partsL := ?_, top := h.top.but hx hvs e, bot := h.bot.but hx hvs e, nought := h.nought.but hx hvs e, live := h.live.but e e', mu := h.mu, nd := h.nd, rsM := h.rsM, bs := h.bs }
 ·refine zEA h.sizes fun ss a b => ?_
  exact iEA ss (e _ _ (ne _ n5) a) (b.but hx hvs e)
 ·refine ⟨by simp [h.partsL.1], fun i a l h1 h2 => ?_⟩
  by_cases q : k = i
  ·subst q
   rw [Bz hk'] at h1
   rw [List.getElem?_set_self hk] at h2
   cases h1; cases h2
   exact iEA _ e' ((hS.but hx hvs e).snoc (hv.but hx hvs e))
  ·rw [List.getElem?_set_ne q] at h2
   refine zEA (h.partsL.2 i a l h1 h2) fun us u1 u2 => ?_
   refine iEA us (e _ _ (fun z => q ?_) u1) (u2.but hx hvs e)
   have a1 := Bz hk'
   rw [← z] at a1
   exact (List.getElem?_inj hk' n7).mp (a1.trans h1.symm)
theorem Ae.appSize (h : Ae h0 M σ s A L) {v : V} {z : Int} {ss : List V} (hss : σ A.aS = some (.list ss)) (hS : Bh M σ ss L.sizes) (hv : IsS M σ v z) (e : Ag A.aS σ σ') (e' : σ' A.aS = some (.list (ss ++ [v]))) :
  Ae h0 M σ' s A { L with sizes := L.sizes ++ [z] } := by
 refine Dc (Ci h.nd) fun n1 n2 n3 n4 n5 n6 n7 => ?_
 have hx := h.mu.2.1
 exact { inst := e _ _ (fun q => by have := h.inst; rw [q, hss] at this; cases this) h.inst, dict := e _ _ (fun q => by have := h.dict; rw [q, hss] at this; cases this) h.dict, rows := e _ _ n1 h.rows, rowsL := h.rowsL.but hx hss e fun q => h.rsM _ q hx, sizes := iEA _ e' ((hS.but hx hss e).snoc (hv.but hx hss e)), parts := e _ _ (Ne.symm n3) h.parts, partsL := h.partsL.but hx hss e n5, top := h.top.but hx hss e, bot := h.bot.but hx hss e, nought := h.nought.but hx hss e, live := h.live.but e e', mu := h.mu, nd := h.nd, rsM := h.rsM, bs := h.bs }
end
structure K8 (L : LC) : Prop where
 rows : ∀ i j, Bnd KB (gt (gl L.rows i) j)
 sizes : ∀ i, Bnd KB (gt L.sizes i)
 parts : ∀ i j, Bnd KB (gt (gl L.parts i) j)
 top : Bnd KB L.top
 bot : Bnd KB L.bot
noncomputable def Ca (M : Addr → Prop) (σ σ' : Aa) : Prop := ∀ a o, ¬ M a → σ a = some o → σ' a = some o
theorem Ext.toM {M : Addr → Prop} {σ σ' : Aa} (h : Ext σ σ') : Ca M σ σ' := fun a o _ e => h a o e
theorem Ca.trans {M : Addr → Prop} {σ σ1 σ2 : Aa} (h : Ca M σ σ1) (h' : Ca M σ1 σ2) : Ca M σ σ2 := fun a o n e => h' a o n (h a o n e)
theorem Ca.but {M : Addr → Prop} {σ σ1 σ2 : Aa} {x : Addr} (h : Ca M σ σ1) (h' : Ag x σ1 σ2) (hx : M x) : Ca M σ σ2 := fun a o n e => h' a o (fun q => n (q ▸ hx)) (h a o n e)
section
variable {h0 : Heap} {prog : Program} {w : World} {mg mb : Str → Option Value} (G : Gd (KK w) h0 mg mb) {n : Nat}
noncomputable def Bw (L : LC) (k : Nat) : Bool :=
 decide (gt L.sizes k * gt L.sizes k * L.top ≤ (gt L.sizes (k + 1) * gt L.sizes (k - 1) + gt (gl L.parts k) (k - 1) * gt (gl L.parts k) (k - 1)) * L.bot)
theorem bX (x y : Int) : decide (0 ≤ Dv x y) = decide (y ≤ x) := by
 unfold Dv; rw [decide_eq_decide]; split <;> (try split) <;> lia
include G in
theorem Ht {M : Addr → Prop} {s : Addr} {A : LA} {L : LC} {k : Nat} {σ : Aa} {Q : V → Aa → Prop} (h : Ae h0 M σ s A L) (hb : K8 L) (hk0 : 0 < k) (hk : k < L.parts.length) (hkl : k - 1 < (gl L.parts k).length) (hks : k + 1 < L.sizes.length)
  (hQ : ∀ σ', Ext σ σ' → Q (.bool (Bw L k)) σ') : CC prog w h0 (n + 5) (.ref 287) [.ref s, .int k] σ Q := by
 have hML := Ch
 have hKB := Gb
 refine zEA h.sizes fun ss hss hS => ?_
 refine Ec (h.partsL.at hk) fun _ vs hvs hP => ?_
 refine zEA (hP.at hkl) fun vp vp1 vp2 => ?_
 refine zEA (hS.at (show k - 1 < L.sizes.length by exact ln 0x222210121b0a211b2a12 [k - 1, L.sizes.length, k] hks (lsc k 1 (ln 0x22201b000b11 [k] hk0)))) fun v0 v01 v02 => ?_
 refine zEA (hS.at (show k < L.sizes.length by exact ln 0x22210111b0a11 [k, L.sizes.length] hks)) fun v1 v11 v12 => ?_
 refine zEA (hS.at hks) fun v2 v21 v22 => ?_
 have lp := h.len_ps
 refine enter G [some (.ref s), some (.int k), none, none, none, none] (Ji _) rfl rfl ?_
 refine h.aPx ?_
 refine ixR h.parts k rfl (o21 hk lp) ?_
 refine ixL hvs (k - 1) vp (ln 0x22121e1b0ec801b1a21 [k, k - 1] (lsc k 1 (ln 0x22201b000b11 [k] hk0))) vp1 ?_
 refine h.aSx ?_
 refine ixL hss k v1 rfl v11 ?_
 refine And.intro (h.self.inst) (?_)
 refine h.aSx ?_
 refine ixL hss (k + 1) v2 (o8) v21 ?_
 refine h.aSx ?_
 refine ixL hss (k - 1) v0 (ln 0x22121e1b0ec801b1a21 [k, k - 1] (lsc k 1 (ln 0x22201b000b11 [k] hk0))) v01 ?_
 refine A5 G h.self h.live v22 v02 ((hb.sizes _).mono (o0 hML hKB)) ((hb.sizes _).mono (o0 hML hKB)) fun t1 σ1 e1 i1 => ?_
 have h1 := h.ext e1
 refine And.intro (h1.self.inst) (?_)
 refine A5 G h1.self h1.live (vp2.ext e1) (vp2.ext e1) ((hb.parts _ _).mono (o0 hML hKB)) ((hb.parts _ _).mono (o0 hML hKB)) fun t2 σ2 e2 i2 => ?_
 have h2 := h1.ext e2
 refine h2.wx ?_
 refine CC.up (n := n + 3) (Fi G h2.live (i1.ext e2) i2 ((Bnd.mul (hb.sizes _) (hb.sizes _)).mono (o38 hML hKB)) ((Bnd.mul (hb.parts _ _) (hb.parts _ _)).mono (o38 hML hKB)) fun t3 σ3 e3 i3 => ?_) (ln 0x224b0a3b0a00 [n])
 have h3 := h2.ext e3
 have v1' := ((v12.ext e1).ext e2).ext e3
 refine And.intro (h3.self.inst) (?_)
 refine And.intro (h3.self.inst) (?_)
 refine A5 G h3.self h3.live v1' v1' ((hb.sizes _).mono (o0 hML hKB)) ((hb.sizes _).mono (o0 hML hKB)) fun t4 σ4 e4 i4 => ?_
 have h4 := h3.ext e4
 refine h4.vtx ?_
 refine A5 G h4.self h4.live i4 h4.top ((Bnd.mul (hb.sizes _) (hb.sizes _)).mono (o38 hML hKB)) (hb.top.mono (o0 hML hKB)) fun t5 σ5 e5 i5 => ?_
 have h5 := h4.ext e5
 refine And.intro (h5.self.inst) (?_)
 refine h5.vbx ?_
 conv => whnf
 have bh : Bnd (2 * KB + 1) (gt L.sizes (k + 1) * gt L.sizes (k - 1) + gt (gl L.parts k) (k - 1) * gt (gl L.parts k) (k - 1)) := Bnd.add ((Bnd.mul (hb.sizes _) (hb.sizes _)).mono (o17)) ((Bnd.mul (hb.parts _ _) (hb.parts _ _)).mono (o17))
 refine A5 G h5.self h5.live (((i3.ext e4).ext e5)) h5.bot (bh.mono (o93 hML hKB)) (hb.bot.mono (o0 hML hKB)) fun t6 σ6 e6 i6 => ?_
 refine CC.up (n := n + 2) (I1 G i6 (i5.ext e6) ((Bnd.mul bh hb.bot).mono (ln 0x2612101b028aa0400005fb027ffff86fb122 [KB, ML] hML hKB)) ((Bnd.mul (Bnd.mul (hb.sizes _) (hb.sizes _)) hb.top).mono (ln 0x26121000aa0400005fb027ffff86fb122 [KB, ML] hML hKB)) ?_) (ln 0x224b0a2b0a00 [n])
 conv => whnf
 rw [bX]
 exact hQ σ6 (((((e1.trans e2).trans e3).trans e4).trans e5).trans e6)
end
theorem Cb {l : List (List Int)} {k : Nat} {v : List Int} (h : k < l.length) : gl (l.set k v) k = v := by
 unfold gl; rw [List.getD_eq_getElem?_getD, List.getElem?_set_self h]; rfl
theorem Da {l : List (List Int)} {k j : Nat} {v : List Int} (h : k ≠ j) : gl (l.set k v) j = gl l j := by
 unfold gl; rw [List.getD_eq_getElem?_getD, List.getD_eq_getElem?_getD, List.getElem?_set_ne h]
noncomputable def shP (pk pj : List Int) (q : Int) : Nat → List Int
 | 0 => pk
 | i + 1 => (shP pk pj q i).set i (gt (shP pk pj q i) i - q * gt pj i)
theorem Mp (pk pj : List Int) (q : Int) : ∀ i, (shP pk pj q i).length = pk.length
 | 0 => rfl
 | i + 1 => by rw [shP, List.length_set, Mp pk pj q i]
theorem Vy (pk pj : List Int) (q : Int) {m : Nat} : ∀ i, i ≤ m → gt (shP pk pj q i) m = gt pk m
 | 0, _ => rfl
 | i + 1, h => by rw [shP, Cq (by exact ln 0x22110511b0a01 [i, m] h)]; exact Vy pk pj q i (by exact o76 h)
noncomputable def quo (L : LC) (k j : Nat) : Int := (2 * gt (gl L.parts k) j + gt L.sizes (j + 1)).fdiv (2 * gt L.sizes (j + 1))
noncomputable def Cz (L : LC) (k j : Nat) : LC :=
 ⟨L.rows.set k (C0 (gl L.rows k) (gl L.rows j) (quo L k j)), L.sizes,
  L.parts.set k (shP ((gl L.parts k).set j (gt (gl L.parts k) j - quo L k j * gt L.sizes (j + 1))) (gl L.parts j) (quo L k j) j), L.top, L.bot⟩
noncomputable def Bq (L : LC) (k j : Nat) : LC := if 2 * ((gt (gl L.parts k) j).natAbs : Int) ≤ gt L.sizes (j + 1) then L else Cz L k j
theorem bW (x y : Int) : decide (Dv x y ≤ 0) = decide (x ≤ y) := by
 unfold Dv; rw [decide_eq_decide]; split <;> (try split) <;> lia
theorem Bnd.dbl {k : Nat} {x : Int} (h : Bnd k x) : Bnd (k + 1) (2 * x) := by unfold Bnd at *; rw [Cs]; exact fE h
theorem Bnd.quo {L : LC} (hb : K8 L) {k j : Nat} (hz : 0 < gt L.sizes (j + 1)) : Bnd (KB + 2) (quo L k j) := by
 have h1 : Bnd (KB + 2) (2 * gt (gl L.parts k) j + gt L.sizes (j + 1)) := Bnd.add (hb.parts k j).dbl ((hb.sizes (j + 1)).mono (ln 0x221b0a000 [KB]))
 unfold Mine.quo
 rw [Cn (by exact lz 0x2420280b600b71 [gt L.sizes (j + 1)] hz)]
 unfold Bnd at *
 have := Int.natAbs_ediv_le_natAbs (2 * gt (gl L.parts k) j + gt L.sizes (j + 1)) (2 * gt L.sizes (j + 1))
 exact lq 0x222200e710001e72 [((2 * gt (gl L.parts k) j + gt L.sizes (j + 1)) / (2 * gt L.sizes (j + 1))).natAbs, (2 * gt (gl L.parts k) j + gt L.sizes (j + 1)).natAbs] [256 ^ (KB + 2)] h1 this
section
variable {h0 : Heap} {prog : Program} {w : World} {mg mb : Str → Option Value} (G : Gd (KK w) h0 mg mb) {n : Nat}
theorem stR {B : Addr → Prop} {σ : Aa} {x : Addr} {l : List Addr} {n : Int} {v : V} {Q : Aa → Prop} (hB : B x) (h : σ x = some (.list (l.map .ref))) (j : Nat) (hn : n = (j : Int)) (hj : j < l.length) (q : ∀ σ', Ag x σ σ' → σ' x = some (.list ((l.map .ref).set j v)) → Q σ') :
  ∃ xs j', (B x ∧ σ x = some (.list xs) ∧ n = ((j' : Nat) : Int) ∧ j' < xs.length) ∧ ∀ σ', Ag x σ σ' → σ' x = some (.list (xs.set j' v)) → Q σ' :=
 (C5 _ j ⟨hB, h, hn, by simpa using hj⟩ q)
theorem stL {B : Addr → Prop} {σ : Aa} {x : Addr} {l : List V} {n : Int} {v : V} {Q : Aa → Prop} (hB : B x) (h : σ x = some (.list l)) (j : Nat) (hn : n = (j : Int)) (hj : j < l.length) (q : ∀ σ', Ag x σ σ' → σ' x = some (.list (l.set j v)) → Q σ') :
  ∃ xs j', (B x ∧ σ x = some (.list xs) ∧ n = ((j' : Nat) : Int) ∧ j' < xs.length) ∧ ∀ σ', Ag x σ σ' → σ' x = some (.list (xs.set j' v)) → Q σ' :=
 (C5 _ j ⟨hB, h, hn, hj⟩ q)
set_option maxHeartbeats 1000000 in
include G in
theorem T2 {M : Addr → Prop} {s : Addr} {A : LA} {L : LC} {k j : Nat} {σ : Aa} {Q : V → Aa → Prop} (h : Ae h0 M σ s A L) (hb : K8 L) (hj : j < k) (hk9 : k ≤ 1000) (hk : k < L.parts.length) (hkr : k < L.rows.length) (hkl : j < (gl L.parts k).length) (hjl : j ≤ (gl L.parts j).length) (hks : j + 1 < L.sizes.length) (hz : 0 < gt L.sizes (j + 1)) (hrl : (gl L.rows k).length ≤ 1000)
  (hQ : ∀ A' σ', Ca M σ σ' → Ae h0 M σ' s A' (Bq L k j) → Q .none σ') : CC prog w h0 (n + 8) (.ref 280) [.ref s, .int k, .int j] σ Q := by
 have hML := Ch
 have hKB := Gb
 refine zEA h.sizes fun ss hss hS => ?_
 refine Ec (h.partsL.at hk) fun _ vs hvs hP => ?_
 refine zEA (hP.at hkl) fun vp vp1 vp2 => ?_
 refine zEA (hS.at hks) fun vz vz1 vz2 => ?_
 have lp := h.len_ps
 have lr := h.len_rs
 refine enter G [some (.ref s), some (.int k), some (.int j), none, none, none, none] (Nz _) rfl rfl ?_
 refine h.aPx ?_
 refine ixR h.parts k rfl (o21 hk lp) ?_
 refine ixL hvs j vp rfl vp1 ?_
 refine h.aSx ?_
 refine ixL hss (j + 1) vz (o8) vz1 ?_
 refine CC.up (n := n + 1) (Zp G vp2 fun t1 σ1 e1 i1 => ?_) (ln 0x227b0a1b0a00 [n])
 have h1 := h.ext e1
 refine h1.wx ?_
 refine CC.up (n := n + 2) (Im G h1.live i1 (by
  have := (hb.parts k j).mono (show KB ≤ ML by exact o0 hML hKB)
  unfold Bnd at *; simpa using this) fun t2 σ2 e2 i2 => ?_) (ln 0x227b0a2b0a00 [n])
 have h2 := h1.ext e2
 refine CC.up (n := n + 2) (I1 G i2 ((vz2.ext e1).ext e2) (by
  have := (hb.parts k j).dbl.mono (show KB + 1 ≤ ML by exact ln 0x221211b0a0400005fb027ffff86fb122 [KB, ML] hML hKB)
  unfold Bnd at *; lia) ((hb.sizes _).mono (o0 hML hKB)) ?_) (ln 0x227b0a2b0a00 [n])
 conv => whnf
 rw [bW]
 refine ⟨fun e => ?_, fun e => ?_⟩
 ·have e := of_decide_eq_true e
  refine hQ A σ2 (e1.trans e2).toM ?_
  unfold Bq; rw [if_pos e]; exact h2
 have e := of_decide_eq_false e
 have eL : Bq L k j = Cz L k j := by unfold Bq; rw [if_neg e]
 rw [eL] at hQ
 have e12 := e1.trans e2
 clear h1 e1 e2 i1 i2 t1 t2
 refine h2.wx ?_
 refine h2.divx ?_
 refine T5 G h2.live (vp2.ext e12) (vz2.ext e12) ((hb.parts k j).mono (ln 0x212121002102fb1a2400005fb027ffff86fb223 [KB, ML - 16, ML] hML hKB (lsc ML 16 (ln 0x2120102fb07ffff86fb021 [ML] hML)))) ((hb.sizes (j + 1)).mono (ln 0x212121002102fb1a2400005fb027ffff86fb223 [KB, ML - 16, ML] hML hKB (lsc ML 16 (ln 0x2120102fb07ffff86fb021 [ML] hML)))) hz fun q σ3 e3 i3 => ?_
 have bq := Bnd.quo hb (k := k) hz
 have i3 : IsS M σ3 (.ref q) (quo L k j) := i3
 generalize hq : quo L k j = qq at *
 have h3 := h2.ext e3
 refine Ec (h3.rowsL.at hkr) fun _ wk wk1 wk2 => ?_
 refine Ec (h3.rowsL.at (show j < L.rows.length by exact ln 0x22221011212012 [j, L.rows.length, k] hj hkr)) fun _ wj wj1 wj2 => ?_
 refine h3.aRx ?_
 refine ixR h3.rows k rfl (o21 hkr lr) ?_
 refine h3.aRx ?_
 refine ixR h3.rows j rfl (ln 0x212221013123212013 [j, A.rs.length, k, L.rows.length] hj hkr lr) ?_
 refine h3.wx ?_
 refine h3.mulx ?_
 refine CC.up (n := n + 5) (Q5 G (k := KB + 2) h3.live wk1 wj1 wk2 wj2 i3 (fun i => (hb.rows k i).mono (ln 0x222b0a000 [KB])) (fun i => (hb.rows j i).mono (ln 0x222b0a000 [KB])) bq (ln 0x24122212b0a28a0400005fb027ffff86fb223e83fb103 [KB, (gl L.rows k).length, ML] hrl hML hKB) fun r vr σ4 r1 r2 e4 r3 r4 => ?_) (ln 0x227b0a5b0a00 [n])
 have h4 := h3.ext e4
 refine h4.aRx ?_
 refine stR h4.bs.1 h4.rows k rfl (o21 hkr lr) fun σ5 x5 y5 => ?_
 have h5 := h4.setRow r3 r4 (h3.live.not r2) x5 y5
 have e5 : Ca M σ σ5 := (((e12.trans e3).trans e4).toM).but x5 h.mu.1
 have but5 : ∀ {v z}, IsS M σ4 v z → IsS M σ5 v z := fun i => i.but h4.mu.1 h4.rows x5
 have i5 := but5 (i3.ext e4)
 have z5 := but5 (((vz2.ext e12).ext e3).ext e4)
 have p5 := but5 (((vp2.ext e12).ext e3).ext e4)
 refine And.intro (h5.self.inst) (?_)
 refine A5 G h5.self h5.live i5 z5 (bq.mono (ln 0x221212b0a0400005fb027ffff86fb122 [KB, ML] hML hKB)) ((hb.sizes _).mono (o0 hML hKB)) fun t6 σ6 e6 i6 => ?_
 have h6 := h5.ext e6
 refine h6.wx ?_
 refine CC.up (n := n + 4) (Ju G h6.live (p5.ext e6) i6 ((hb.parts _ _).mono (o0 hML hKB)) ((Bnd.mul bq (hb.sizes _)).mono (ln 0x2412102b0aa0400005fb027ffff86fb122 [KB, ML] hML hKB)) fun t7 σ7 e7 i7 => ?_) (ln 0x227b0a4b0a00 [n])
 have h7 := h6.ext e7
 refine Ec (h7.partsL.at hk) fun _ us us1 us2 => ?_
 refine h7.aPx ?_
 refine ixR (l := A.ps) h7.parts k rfl (o21 hk lp) ?_
 refine stL (h7.bs.2.2.2 _ (D7 (l := A.ps) (o21 hk lp))) us1 j rfl (by rw [us2.1]; exact hkl) fun σ8 x8 y8 => ?_
 have h8 := h7.setPart (A := { A with rs := A.rs.set k r }) (L := { L with rows := L.rows.set k (C0 (gl L.rows k) (gl L.rows j) qq) }) hk us1 us2 i7 x8 y8
 have mk : M (ga A.ps k) := h.mu.2.2.2 _ (D7 (o21 hk lp))
 have e8 : Ca M σ σ8 := (e5.trans (e6.trans e7).toM).but x8 mk
 have i8 : IsS M σ8 (.ref q) qq := (((i5.ext e6).ext e7)).but mk us1 x8
 have hA := h8.len_ps
 generalize hA2 : ({ A with rs := A.rs.set k r } : LA) = A2 at *
 have gk : ga A2.ps k = ga A.ps k := by rw [← hA2]
 have lp2 : A2.ps.length = L.parts.length := by rw [← hA2]; exact lp
 generalize hpk : (gl L.parts k).set j (gt (gl L.parts k) j - qq * gt L.sizes (j + 1)) = pk at *
 have lpk : pk.length = (gl L.parts k).length := by rw [← hpk, List.length_set]
 refine And.intro (⟨by lia, by lia⟩) (?_)
 refine Ar (fun i ρ υ => ∃ u6, ρ = [some (.ref s), some (.int k), some (.int j), some vp, some vz, some (.ref q), u6] ∧ Ca M σ υ ∧ IsS M υ (.ref q) qq ∧ i ≤ j ∧
   Ae h0 M υ s A2 ⟨L.rows.set k (C0 (gl L.rows k) (gl L.rows j) qq), L.sizes, L.parts.set k (shP pk (gl L.parts j) qq i), L.top, L.bot⟩) (Fb _ rfl e8 i8 (Nat.zero_le _) h8) (fun _ _ _ _ => trivial) ?_ ?_
 ·(refine fun i _ υ it => Pi fun u6 zq0 he hi hij hA => ?_; subst zq0; refine fun hit => ?_)
  (refine zA (Bx hit) fun zq0 hlt => ?_; subst zq0)
  have hij : i < j := by exact o10 hlt
  refine Ec (hA.partsL.at (i := k) (by simp; exact hk)) fun _ ws ws1 ws2 => ?_
  simp only [Cb hk] at ws2
  refine zEA (ws2.at (i := i) (by rw [Mp, lpk]; exact ln 0x22221012e0e0ba71212 [i, (gl L.parts k).length, j] hkl hlt)) fun vk vk1 vk2 => ?_
  refine Ec (hA.partsL.at (i := j) (by simp; exact ln 0x22221011212012 [j, L.parts.length, k] hj hk)) fun _ wt wt1 wt2 => ?_
  simp only [Da (show k ≠ j by exact ln 0x2221050111 [k, j] hj)] at wt2
  refine zEA (wt2.at (i := i) (o82 hjl hlt)) fun vj vj1 vj2 => ?_
  have b1 : Bnd KB (gt (shP pk (gl L.parts j) qq i) i) := by
   rw [Vy _ _ _ _ (Nat.le_refl _), ← hpk, Cq (by exact ln 0x2221050e1e0ba71 [j, i] hlt)]; exact hb.parts _ _
  refine hA.aPx ?_
  refine ixR hA.parts k rfl (ln 0x21221012122012 [k, A2.ps.length, L.parts.length] hk lp2) ?_
  refine ixL ws1 i vk (o2) vk1 ?_
  refine And.intro (hA.self.inst) (?_)
  refine hA.aPx ?_
  refine ixR hA.parts j rfl (ln 0x212221013123212013 [j, A2.ps.length, k, L.parts.length] hj hk lp2) ?_
  refine ixL wt1 i vj (o2) vj1 ?_
  refine A5 G hA.self hA.live hi vj2 (bq.mono (ln 0x221212b0a0400005fb027ffff86fb122 [KB, ML] hML hKB)) ((hb.parts _ _).mono (o0 hML hKB)) fun t9 σ9 e9 i9 => ?_
  have h9 := hA.ext e9
  refine h9.wx ?_
  refine CC.up (n := n + 4) (Ju G h9.live (vk2.ext e9) i9 (b1.mono (o0 hML hKB)) ((Bnd.mul bq (hb.parts _ _)).mono (ln 0x2412102b0aa0400005fb027ffff86fb122 [KB, ML] hML hKB)) fun t10 σ10 e10 i10 => ?_) (ln 0x227b0a4b0a00 [n])
  have h10 := h9.ext e10
  have w10 := e10 _ _ (e9 _ _ ws1)
  have mk' : M (ga A2.ps k) := by rw [gk]; exact mk
  refine h10.aPx ?_
  refine ixR h10.parts k rfl (ln 0x21221012122012 [k, A2.ps.length, L.parts.length] hk lp2) ?_
  refine stL (h10.bs.2.2.2 _ (D7 (ln 0x21221012122012 [k, A2.ps.length, L.parts.length] hk lp2))) w10 i (o2) (by rw [ws2.1, Mp, lpk]; exact ln 0x22221012e0e0ba71212 [i, (gl L.parts k).length, j] hkl hlt) fun σ11 x11 y11 => ?_
  have h11 := h10.setPart (k := k) (j := i) (by simp; exact hk) w10 (by simp only [Cb hk]; exact (ws2.ext e9).ext e10) i10 x11 y11
  simp only [Cb hk, List.set_set] at h11
  exact Fb _ rfl ((he.trans (e9.trans e10).toM).but x11 mk') (((hi.ext e9).ext e10).but mk' w10 x11) hij h11
 ·(refine fun _ υ => Pi fun u6 zq0 he hi hij hA => ?_; subst zq0)
  rw [Bp, show ((j : Int) - 0).toNat = j by rfl] at hA
  refine hQ A2 υ he ?_
  unfold Cz
  rw [hq, hpk]
  exact hA
end
noncomputable def Lf (L : LC) (k : Nat) : Int := (gt L.sizes (k - 1) * gt L.sizes (k + 1) + gt (gl L.parts k) (k - 1) * gt (gl L.parts k) (k - 1)).tdiv (gt L.sizes k)
noncomputable def exB (L : LC) (k : Nat) (pi : List Int) : Int := (gt L.sizes (k + 1) * gt pi (k - 1) - gt (gl L.parts k) (k - 1) * gt pi k).tdiv (gt L.sizes k)
noncomputable def exI (L : LC) (k : Nat) (pi : List Int) : List Int := (pi.set k (exB L k pi)).set (k - 1) ((Lf L k * gt pi k + gt (gl L.parts k) (k - 1) * exB L k pi).tdiv (gt L.sizes (k + 1)))
noncomputable def exP (L : LC) (k : Nat) : Nat → List (List Int)
 | 0 => (L.parts.set (k - 1) ((gl L.parts k).take (k - 1))).set k (gl L.parts (k - 1) ++ [gt (gl L.parts k) (k - 1)])
 | t + 1 => (exP L k t).set (k + 1 + t) (exI L k (gl L.parts (k + 1 + t)))
noncomputable def exL (L : LC) (k : Nat) : LC := ⟨(L.rows.set (k - 1) (gl L.rows k)).set k (gl L.rows (k - 1)), L.sizes.set k (Lf L k), exP L k (L.parts.length - (k + 1)), L.top, L.bot⟩
theorem Jq (L : LC) (k : Nat) : ∀ t, (exP L k t).length = L.parts.length
 | 0 => by unfold exP; simp
 | t + 1 => by rw [exP, List.length_set, Jq L k t]
theorem Nc (L : LC) {k m : Nat} : ∀ t, k + 1 + t ≤ m → gl (exP L k t) m = gl L.parts m
 | 0, h => by unfold exP; rw [Da (by exact ln 0x22110510b1b0aa01 [k, m] h), Da (by exact ln 0x222110520010b1b2aa02 [k - 1, m, k] h (Nat.sub_le k 1))]
 | t + 1, h => by rw [exP, Da (by exact ln 0x221211b0aa521b1a1b0aa01 [k, t, m] h)]; exact Nc L t (by exact ln 0x222211b0aa021b1a1b0aa01 [k, t, m] h)
theorem Bnd.tdiv {k : Nat} {x y : Int} (h : Bnd k x) : Bnd k (x.tdiv y) := by
 unfold Bnd at *
 have := Int.natAbs_tdiv_le_natAbs x y
 exact lq 0x222200e710001e72 [(x.tdiv y).natAbs, x.natAbs] [256 ^ k] h this
theorem Bh.take {M : Addr → Prop} {σ : Aa} {vs : List V} {xs : List Int} (h : Bh M σ vs xs) (e : Nat) : Bh M σ (vs.take e) (xs.take e) :=
 ⟨by simp [h.1], fun i v x h1 h2 => by
  rw [List.getElem?_take] at h1 h2
  split at h1
  ·rename_i hi
   rw [if_pos hi] at h2; exact h.2 i v x h1 h2
  ·cases h1⟩
theorem Zl {l : List V} {e : Nat} {j : Int} (hj : j = (e : Int)) (he : e ≤ l.length) : cut l none (some j) = l.take e := by
 subst hj
 have e1 : Eh (some (e : Int)) l.length = e := by
  unfold Eh; dsimp only; rw [if_neg (o34), Int.toNat_natCast]; exact dN he
 rw [cut, e1]
 simp [Fk]
theorem Ij {l : List Addr} {k j : Nat} {v : Addr} (h : k ≠ j) : ga (l.set k v) j = ga l j := by
 unfold ga; rw [List.getD_eq_getElem?_getD, List.getD_eq_getElem?_getD, List.getElem?_set_ne h]
section
variable {h0 : Heap} {prog : Program} {w : World} {mg mb : Str → Option Value} (G : Gd (KK w) h0 mg mb) {n : Nat}
theorem Ae.not_in {M : Addr → Prop} {σ : Aa} {s : Addr} {A : LA} {L : LC} (h : Ae h0 M σ s A L) {r : Addr} (hr : σ r = none) : r ∉ A.aR :: A.aS :: A.aP :: A.ps := fun q => by
 have : M r := by
  simp only [List.mem_cons] at q
  rcases q with q | q | q | q
  ·rw [q]; exact h.mu.1
  ·rw [q]; exact h.mu.2.1
  ·rw [q]; exact h.mu.2.2.1
  ·exact h.mu.2.2.2 _ q
 exact h.live _ this hr
theorem Ca.none {M M' : Addr → Prop} {σ σ' : Aa} {p : Addr} (h : Ca M σ σ') (hl : C6 M' σ') (hm : ∀ m, M m → M' m) (hp : σ' p = none) : σ p = .none := by
 cases e : σ p with
 | none => rfl
 | some o =>
  by_cases q : M p
  ·exact absurd hp (hl p (hm p q))
  ·have := h p o q e; rw [hp] at this; cases this
set_option maxHeartbeats 1000000 in
include G in
theorem Kq {M : Addr → Prop} {s : Addr} {A : LA} {L : LC} {k : Nat} {σ : Aa} {Q : V → Aa → Prop} (h : Ae h0 M σ s A L) (hb : K8 L) (hk0 : 0 < k) (hk : k < L.parts.length) (hp9 : L.parts.length ≤ 1000) (hkr : k < L.rows.length) (hkl : (gl L.parts k).length = k) (hkm : (gl L.parts (k - 1)).length ≤ 1000)
  (hil : ∀ i, k < i → i < L.parts.length → k < (gl L.parts i).length) (hks : k + 1 < L.sizes.length) (hz : gt L.sizes k ≠ 0) (hz' : gt L.sizes (k + 1) ≠ 0)
  (hQ : ∀ M' A' σ', (∀ m, M m → M' m) → (∀ m, M' m → M m ∨ σ m = none) → Ca M σ σ' → Ae h0 M' σ' s A' (exL L k) → Q .none σ') : CC prog w h0 (n + 7) (.ref 294) [.ref s, .int k] σ Q := by
 have hML := Ch
 have hKB := Gb
 refine zEA h.sizes fun ss hss hS => ?_
 have lp := h.len_ps
 have lr := h.len_rs
 refine Ec (h.rowsL.at hkr) fun _ wk wk1 wk2 => ?_
 refine Ec (h.rowsL.at (show k - 1 < L.rows.length by exact ln 0x222210121b0a21212 [k - 1, L.rows.length, k] hkr (lsc k 1 (ln 0x22201b000b11 [k] hk0)))) fun _ wj wj1 wj2 => ?_
 have rk : ¬ M (ga A.rs k) := h.rsM _ (D7 (ln 0x21221012122012 [k, A.rs.length, L.rows.length] hkr lr))
 have rj : ¬ M (ga A.rs (k - 1)) := h.rsM _ (D7 (ln 0x2212210121b0a23123213 [k - 1, A.rs.length, k, L.rows.length] hkr lr (lsc k 1 (ln 0x22201b000b11 [k] hk0))))
 refine enter G [some (.ref s), some (.int k), none, none, none, none, none, none, none] (L2 _) rfl rfl ?_
 refine h.aRx ?_
 refine ixR h.rows k rfl (ln 0x21221012122012 [k, A.rs.length, L.rows.length] hkr lr) ?_
 refine h.aRx ?_
 refine ixR h.rows (k - 1) (o11 hk0 hkl) (ln 0x2212210121b0a23123213 [k - 1, A.rs.length, k, L.rows.length] hkr lr (lsc k 1 (ln 0x22201b000b11 [k] hk0))) ?_
 refine h.aRx ?_
 refine stR h.bs.1 h.rows (k - 1) (o11 hk0 hkl) (ln 0x2212210121b0a23123213 [k - 1, A.rs.length, k, L.rows.length] hkr lr (lsc k 1 (ln 0x22201b000b11 [k] hk0))) fun σ1 x1 y1 => ?_
 have h1 := h.setRow wk1 wk2 rk x1 y1
 refine h1.aRx ?_
 refine stR (l := A.rs.set (k - 1) (ga A.rs k)) h1.bs.1 h1.rows k rfl (by simp; exact ln 0x21221012122012 [k, A.rs.length, L.rows.length] hkr lr) fun σ2 x2 y2 => ?_
 have h2 := h1.setRow (r := ga A.rs (k - 1)) (x1 _ _ (fun q => rj (q ▸ h.mu.1)) wj1) (wj2.but h.mu.1 h.rows x1) rj x2 y2
 have hm1 : M A.aR := h.mu.1
 have e2 : Ca M σ σ2 := (Ca.but (fun a o _ e => e) x1 hm1).but x2 hm1
 generalize hA2 : ({ { A with rs := A.rs.set (k - 1) (ga A.rs k) } with rs := (A.rs.set (k - 1) (ga A.rs k)).set k (ga A.rs (k - 1)) } : LA) = A2 at h2
 have a2p : A2.ps = A.ps := by rw [← hA2]
 have a2l : A2.ps.length = L.parts.length := by rw [a2p]; exact lp
 generalize hRR : (L.rows.set (k - 1) (gl L.rows k)).set k (gl L.rows (k - 1)) = RR at h2
 clear h1 x1 y1 x2 y2 wk1 wk2 wj1 wj2 hss hS h
 refine zEA h2.sizes fun ss hss hS => ?_
 refine Ec (h2.partsL.at hk) fun _ vs hvs hP => ?_
 refine zEA (hP.at (i := k - 1) (by show _ < (gl L.parts k).length; exact ln 0x221210121b0a22122 [k - 1, (gl L.parts k).length, k] hkl (lsc k 1 (ln 0x22201b000b11 [k] hk0)))) fun vp vp1 vp2 => ?_
 refine zEA (hS.at (i := k + 1) hks) fun vz vz1 vz2 => ?_
 refine zEA (hS.at (i := k - 1) (show k - 1 < L.sizes.length by exact ln 0x222210121b0a211b2a12 [k - 1, L.sizes.length, k] hks (lsc k 1 (ln 0x22201b000b11 [k] hk0)))) fun vz0 vz01 vz02 => ?_
 refine zEA (hS.at (i := k) (show k < L.sizes.length by exact o59 hkl hks)) fun vzk vzk1 vzk2 => ?_
 refine Ec (h2.partsL.at (i := k - 1) (show k - 1 < L.parts.length by exact ln 0x222210121b0a21212 [k - 1, L.parts.length, k] hk (lsc k 1 (ln 0x22201b000b11 [k] hk0)))) fun _ us hus hU => ?_
 refine h2.aPx ?_
 refine ixR h2.parts k rfl (ln 0x21221012122012 [k, A2.ps.length, L.parts.length] hk a2l) ?_
 refine ixL hvs (k - 1) vp (o11 hk0 hkl) vp1 ?_
 refine h2.aSx ?_
 refine ixL hss (k + 1) vz (o8) vz1 ?_
 refine h2.aPx ?_
 refine ixR h2.parts (k - 1) (o11 hk0 hkl) (ln 0x2212210121b0a23123213 [k - 1, A2.ps.length, k, L.parts.length] hk a2l (lsc k 1 (ln 0x22201b000b11 [k] hk0))) ?_
 refine h2.aPx ?_
 refine ixR h2.parts k rfl (ln 0x21221012122012 [k, A2.ps.length, L.parts.length] hk a2l) ?_
 refine iEA _ hvs ?_
 rw [Zl (e := k - 1) (o11 hk0 hkl) (by rw [hP.1]; show _ ≤ (gl L.parts k).length; exact ln 0x221210021b0a22122 [k - 1, (gl L.parts k).length, k] hkl (lsc k 1 (ln 0x22201b000b11 [k] hk0)))]
 intro p1 σ3 b3 n3 e3 y3
 have h3 := h2.more n3 e3 y3
 refine h3.aPx ?_
 refine stR h3.bs.2.2.1 h3.parts (k - 1) (o11 hk0 hkl) (ln 0x2212210121b0a23123213 [k - 1, A2.ps.length, k, L.parts.length] hk a2l (lsc k 1 (ln 0x22201b000b11 [k] hk0))) fun σ4 x4 y4 => ?_
 have m3 : ∀ {v z}, IsS M σ2 v z → IsS (fun m => M m ∨ m = p1) σ3 v z := fun i => (i.more n3).ext e3
 have h4 := h3.setParts (k := k - 1) (p := p1) y3 (((hP.take (k - 1)).more n3).ext e3) (.inr rfl) b3 (h2.not_in n3) x4 y4
 have m4 : ∀ {v z}, IsS M σ2 v z → IsS (fun m => M m ∨ m = p1) σ4 v z := fun i => (m3 i).but h3.mu.2.2.1 h3.parts x4
 have e4 : Ca M σ σ4 := (e2.trans e3.toM).but x4 h2.mu.2.2.1
 have hus4 : σ4 (ga A2.ps (k - 1)) = some (.list us) := x4 _ _ (fun q => by
  have := (Ci h2.nd).2.2.2.2.2.1
  exact this (by rw [← q]; exact D7 (ln 0x2212210121b0a23123213 [k - 1, A2.ps.length, k, L.parts.length] hk a2l (lsc k 1 (ln 0x22201b000b11 [k] hk0))))) (e3 _ _ hus)
 conv => whnf
 intro z1 σ5 bz1 nz1 ez1 yz1
 refine C5 _ _ ⟨ez1 _ _ hus4, yz1, by rw [hU.1]; show (gl L.parts (k - 1)).length + 1 ≤ 16777216; exact ln 0x22210000007fb1b0a03e83fb001 [(gl L.parts (k - 1)).length] hkm⟩ ?_
 intro p2 σ6 b6 n6 e6 y6
 have h5 := h4.ext ez1
 have h6 := h5.more n6 e6 y6
 have m6 : ∀ {v z}, IsS M σ2 v z → IsS (fun m => (M m ∨ m = p1) ∨ m = p2) σ6 v z := fun i => (((m4 i).ext ez1).more n6).ext e6
 have us6 : Bh (fun m => (M m ∨ m = p1) ∨ m = p2) σ6 (us ++ [vp]) (gl L.parts (k - 1) ++ [gt (gl L.parts k) (k - 1)]) := by
  refine Bh.snoc ⟨hU.1, fun i v x g1 g2 => m6 (hU.2 i v x g1 g2)⟩ (m6 vp2)
 refine h6.aPx ?_
 refine stR h6.bs.2.2.1 h6.parts k rfl (by show k < (A2.ps.set (k - 1) p1).length; rw [List.length_set]; exact ln 0x21221012122012 [k, A2.ps.length, L.parts.length] hk a2l) fun σ7 x7 y7 => ?_
 have h7 := h6.setParts (k := k) (p := p2) y6 us6 (.inr rfl) b6 (h5.not_in n6) x7 y7
 have m7 : ∀ {v z}, IsS M σ2 v z → IsS (fun m => (M m ∨ m = p1) ∨ m = p2) σ7 v z := fun i => (m6 i).but h6.mu.2.2.1 h6.parts x7
 have e7 : Ca M σ σ7 := ((e4.trans ez1.toM).trans e6.toM).but x7 h2.mu.2.2.1
 have sub : ∀ m, M m → ((M m ∨ m = p1) ∨ m = p2) := fun m hm => .inl (.inl hm)
 have f1 : σ p1 = none := e2.none h2.live (fun m hm => hm) n3
 have f2 : σ p2 = none := (e4.trans ez1.toM).none h5.live (fun m hm => .inl hm) n6
 generalize hM7 : (fun m => (M m ∨ m = p1) ∨ m = p2) = M7 at *
 have sub7 : ∀ m, M m → M7 m := fun m hm => by rw [← hM7]; exact sub m hm
 have fr7 : ∀ m, M7 m → M m ∨ σ m = none := fun m hm => by
  rw [← hM7] at hm
  rcases hm with (hm | hm) | hm
  ·exact .inl hm
  ·right; rw [hm]; exact f1
  ·right; rw [hm]; exact f2
 generalize hA7 : ({ { A2 with ps := A2.ps.set (k - 1) p1 } with ps := (A2.ps.set (k - 1) p1).set k p2 } : LA) = A7 at h7
 have a7p : ∀ i, k < i → ga A7.ps i = ga A.ps i := fun i hi => by
  rw [← hA7]
  show ga ((A2.ps.set (k - 1) p1).set k p2) i = _
  rw [Ij (by exact ln 0x2211051011 [k, i] hi), Ij (by exact ln 0x222110521b0a21212 [k - 1, i, k] hi (lsc k 1 (ln 0x22201b000b11 [k] hk0))), a2p]
 have a7l : A7.ps.length = L.parts.length := by rw [← hA7]; simp; omega
 have aMps : ∀ i, i < L.parts.length → M (ga A.ps i) := fun i hi => by rw [← a2p]; exact h2.mu.2.2.2 _ (D7 (ln 0x22121012012122 [i, A2.ps.length, L.parts.length] a2l hi))
 have a7S : A7.aS = A2.aS := by rw [← hA7]
 have aMS : M A2.aS := h2.mu.2.1
 have a7P0 : (L.parts.set (k - 1) ((gl L.parts k).take (k - 1))).set k (gl L.parts (k - 1) ++ [gt (gl L.parts k) (k - 1)]) = exP L k 0 := rfl
 simp only at h7
 rw [a7P0] at h7
 clear us6 h6 h5 h4 h3 x7 y7 x4 y4 y6 y3 yz1 m3 m4 m6 hus4 hus hU
 refine zEA h7.sizes fun s7 hs7 hS7 => ?_
 simp only at hS7
 refine zEA (hS7.at (i := k - 1) (show k - 1 < L.sizes.length by exact ln 0x222210121b0a211b2a12 [k - 1, L.sizes.length, k] hks (lsc k 1 (ln 0x22201b000b11 [k] hk0)))) fun w0 w01 w02 => ?_
 refine zEA (hS7.at (i := k) (show k < L.sizes.length by exact o59 hkl hks)) fun wk wk1 wk2 => ?_
 have p7 := m7 vp2
 have z7 := m7 vz2
 simp only at p7 z7
 refine And.intro (h7.self.inst) (?_)
 refine h7.aSx ?_
 refine ixL hs7 (k - 1) w0 (o11 hk0 hkl) w01 ?_
 refine A5 G h7.self h7.live w02 z7 ((hb.sizes _).mono (o0 hML hKB)) ((hb.sizes _).mono (o0 hML hKB)) fun t8 σ8 e8 i8 => ?_
 have h8 := h7.ext e8
 refine And.intro (h8.self.inst) (?_)
 refine A5 G h8.self h8.live (p7.ext e8) (p7.ext e8) ((hb.parts _ _).mono (o0 hML hKB)) ((hb.parts _ _).mono (o0 hML hKB)) fun t9 σ9 e9 i9 => ?_
 have h9 := h8.ext e9
 refine h9.wx ?_
 have bnow : Bnd (2 * KB + 1) (gt L.sizes (k - 1) * gt L.sizes (k + 1) + gt (gl L.parts k) (k - 1) * gt (gl L.parts k) (k - 1)) := Bnd.add ((Bnd.mul (hb.sizes _) (hb.sizes _)).mono (o17)) ((Bnd.mul (hb.parts _ _) (hb.parts _ _)).mono (o17))
 refine CC.up (n := n + 3) (Fi G h9.live (i8.ext e9) i9 ((Bnd.mul (hb.sizes _) (hb.sizes _)).mono (o38 hML hKB)) ((Bnd.mul (hb.parts _ _) (hb.parts _ _)).mono (o38 hML hKB)) fun t10 σ10 e10 i10 => ?_) (o80)
 have h10 := h9.ext e10
 have E10 := (e8.trans e9).trans e10
 refine And.intro (h10.self.inst) (?_)
 refine h10.aSx ?_
 refine ixL (E10 _ _ hs7) k wk rfl wk1 ?_
 refine CC.up (n := n + 6) (Jw G h10.self h10.live i10 (wk2.ext E10) (bnow.mono (o94 hML hKB)) ((hb.sizes _).mono (o60 hML hKB)) hz fun t11 σ11 e11 i11 => ?_) (o95)
 have h11 := h10.ext e11
 have E11 := E10.trans e11
 have i11 : IsS M7 σ11 (.ref t11) (Lf L k) := i11
 have p11 := p7.ext E11
 have z11 := z7.ext E11
 have bnow' : Bnd (2 * KB + 1) (Lf L k) := bnow.tdiv
 have eM11 : Ca M σ σ11 := e7.trans E11.toM
 clear h10 h9 h8 i10 i9 i8 E10 hs7 hS7 h7
 refine h11.aPx ?_
 refine iEA _ h11.parts ?_
 conv => whnf
 simp only [List.length_map, a7l]
 refine ⟨⟨⟨by lia, by lia⟩, by lia, by lia⟩, ?_⟩
 refine Ar (fun t ρ υ => ∃ u4 u6 u7 u8, ρ = [some (.ref s), some (.int k), some vp, some vz, u4, some (.ref t11), u6, u7, u8] ∧ Ca M σ υ ∧ IsS M7 υ (.ref t11) (Lf L k) ∧ IsS M7 υ vp (gt (gl L.parts k) (k - 1)) ∧ IsS M7 υ vz (gt L.sizes (k + 1)) ∧ k + 1 + t ≤ L.parts.length ∧
   Ae h0 M7 υ s A7 ⟨RR, L.sizes, exP L k t, L.top, L.bot⟩) (B5 _ _ _ _ rfl eM11 i11 p11 z11 ⟨by assumption, h11⟩) (fun _ _ _ _ => trivial) ?_ ?_
 ·(refine fun t _ υ it => D0 fun u4 u6 u7 u8 zq0 => ?_; refine Dc zq0 fun zq1 he inow ip iz ht hA => ?_; subst zq1; refine fun hit => ?_)
  (refine zA (Bx hit) fun zq0 hlt => ?_; subst zq0)
  have hlt : k + 1 + t < L.parts.length := by exact ln 0x222211b0aa12e1e1b0eaa71 [k, t, L.parts.length] hlt
  refine Ec (hA.partsL.at (i := k + 1 + t) (by rw [Jq]; exact hlt)) fun _ xs xs1 xs2 => ?_
  simp only [Nc L t (Nat.le_refl (k + 1 + t))] at xs2
  have hli := hil (k + 1 + t) (o96) hlt
  refine zEA (xs2.at (i := k) hli) fun vh vh1 vh2 => ?_
  refine zEA (xs2.at (i := k - 1) (ln 0x222210121b0a21212 [k - 1, (gl L.parts (k + 1 + t)).length, k] hli (lsc k 1 (ln 0x22201b000b11 [k] hk0)))) fun vg vg1 vg2 => ?_
  refine zEA hA.sizes fun sk hsk hSk => ?_
  simp only at hSk
  refine zEA (hSk.at (i := k) (show k < L.sizes.length by exact o59 hkl hks)) fun wq wq1 wq2 => ?_
  have mi : M7 (ga A7.ps (k + 1 + t)) := by rw [a7p _ (o96)]; exact sub7 _ (aMps _ hlt)
  have mi' : M (ga A7.ps (k + 1 + t)) := by rw [a7p _ (o96)]; exact aMps _ hlt
  have bsi : Bs h0 (ga A7.ps (k + 1 + t)) := hA.bs.2.2.2 _ (D7 (o27 hkl lp a2l a7l ‹_›))
  refine hA.aPx ?_
  refine ixR hA.parts (k + 1 + t) (by rfl) (o27 hkl lp a2l a7l ‹_›) ?_
  refine ixL xs1 k vh rfl vh1 ?_
  refine And.intro (hA.self.inst) (?_)
  refine And.intro (hA.self.inst) (?_)
  refine hA.aPx ?_
  refine ixR hA.parts (k + 1 + t) (by rfl) (o27 hkl lp a2l a7l ‹_›) ?_
  refine ixL xs1 (k - 1) vg (o11 hk0 hkl) vg1 ?_
  refine CC.up (n := n + 5) (Mg G hA.self hA.live iz vg2 ip vh2 (hb.sizes _) (hb.parts _ _) (hb.parts _ _) (hb.parts _ _) (ln 0x24121102fb028a0400005fb027ffff86fb122 [KB, ML] hML hKB) fun r1 υ1 f1 j1 => ?_) (ln 0x226b0a5b0a00 [n])
  have hA1 := hA.ext f1
  refine hA1.aSx ?_
  refine ixL (f1 _ _ hsk) k wq rfl wq1 ?_
  conv => whnf
  have bx : Bnd (2 * KB + 1) (gt L.sizes (k + 1) * gt (gl L.parts (k + 1 + t)) (k - 1) - gt (gl L.parts k) (k - 1) * gt (gl L.parts (k + 1 + t)) k) := Bnd.sub ((Bnd.mul (hb.sizes _) (hb.parts _ _)).mono (o17)) ((Bnd.mul (hb.parts _ _) (hb.parts _ _)).mono (o17))
  refine CC.up (n := n + 6) (Jw G hA1.self hA1.live j1 (wq2.ext f1) (bx.mono (o94 hML hKB)) ((hb.sizes _).mono (o60 hML hKB)) hz fun r2 υ2 f2 j2 => ?_) (o95)
  have hA2' := hA1.ext f2
  have j2 : IsS M7 υ2 (.ref r2) (exB L k (gl L.parts (k + 1 + t))) := j2
  have bb : Bnd (2 * KB + 1) (exB L k (gl L.parts (k + 1 + t))) := bx.tdiv
  have F2 := f1.trans f2
  refine hA2'.aPx ?_
  refine ixR hA2'.parts (k + 1 + t) (by rfl) (o27 hkl lp a2l a7l ‹_›) ?_
  refine stL bsi (F2 _ _ xs1) k rfl (by rw [xs2.1]; exact hli) fun υ3 g3 y3 => ?_
  have hA3 := hA2'.setPart (k := k + 1 + t) (j := k) (by simp only [Jq]; exact hlt) (F2 _ _ xs1) (by simp only [Nc L t (Nat.le_refl (k + 1 + t))]; exact xs2.ext F2) j2 g3 y3
  simp only [Nc L t (Nat.le_refl (k + 1 + t))] at hA3
  have k3 : ∀ {v z}, IsS M7 υ v z → IsS M7 υ3 v z := fun i => (i.ext F2).but mi (F2 _ _ xs1) g3
  have j3 := j2.but mi (F2 _ _ xs1) g3
  have xs3 : Bh M7 υ3 (xs.set k (.ref r2)) ((gl L.parts (k + 1 + t)).set k (exB L k (gl L.parts (k + 1 + t)))) := ((xs2.ext F2).but mi (F2 _ _ xs1) g3).set j3
  refine And.intro (hA3.self.inst) (?_)
  refine A5 G hA3.self hA3.live (k3 inow) (k3 vh2) (bnow'.mono (o93 hML hKB)) ((hb.parts _ _).mono (o0 hML hKB)) fun r4 υ4 f4 j4 => ?_
  have hA4 := hA3.ext f4
  refine And.intro (hA4.self.inst) (?_)
  refine hA4.aPx ?_
  refine ixR hA4.parts (k + 1 + t) (by rfl) (o27 hkl lp a2l a7l ‹_›) ?_
  refine ixL (f4 _ _ y3) k (.ref r2) rfl (by rw [List.getElem?_set_self (by rw [xs2.1]; exact hli)]) ?_
  refine A5 G hA4.self hA4.live ((k3 ip).ext f4) (j3.ext f4) ((hb.parts _ _).mono (o0 hML hKB)) (bb.mono (o93 hML hKB)) fun r5 υ5 f5 j5 => ?_
  have hA5 := hA4.ext f5
  refine hA5.wx ?_
  have bt : Bnd (3 * KB + 2) (Lf L k * gt (gl L.parts (k + 1 + t)) k + gt (gl L.parts k) (k - 1) * exB L k (gl L.parts (k + 1 + t))) := Bnd.add (k := 3 * KB + 1) ((Bnd.mul bnow' (hb.parts _ _)).mono (ln 0x221b038a01b028aa00 [KB])) ((Bnd.mul (hb.parts _ _) bb).mono (ln 0x221b038a1b028a0a00 [KB]))
  refine CC.up (n := n + 3) (Fi G hA5.live (j4.ext f5) j5 ((Bnd.mul bnow' (hb.parts _ _)).mono (ln 0x2612101b028aa0400005fb027ffff86fb122 [KB, ML] hML hKB)) ((Bnd.mul (hb.parts _ _) bb).mono (ln 0x261211b028a0a0400005fb027ffff86fb122 [KB, ML] hML hKB)) fun r6 υ6 f6 j6 => ?_) (o80)
  have hA6 := hA5.ext f6
  have F6 := (f4.trans f5).trans f6
  refine And.intro (hA6.self.inst) (?_)
  refine CC.up (n := n + 6) (Jw G hA6.self hA6.live j6 ((k3 iz).ext F6) (bt.mono (ln 0x2161212b038a028b1a2400005fb027ffff86fb223 [KB, ML - 8, ML] hML hKB (lsc ML 8 (ln 0x21208b07ffff86fb021 [ML] hML)))) ((hb.sizes _).mono (o60 hML hKB)) hz' fun r7 υ7 f7 j7 => ?_) (o95)
  have hA7' := hA6.ext f7
  have F7 := F6.trans f7
  refine hA7'.aPx ?_
  refine ixR hA7'.parts (k + 1 + t) (by rfl) (o27 hkl lp a2l a7l ‹_›) ?_
  refine stL bsi (F7 _ _ y3) (k - 1) (o11 hk0 hkl) (by rw [List.length_set, xs2.1]; exact ln 0x222210121b0a21212 [k - 1, (gl L.parts (k + 1 + t)).length, k] hli (lsc k 1 (ln 0x22201b000b11 [k] hk0))) fun υ8 g8 y8 => ?_
  have hset : (exP L k t).set (k + 1 + t) ((gl L.parts (k + 1 + t)).set k (exB L k (gl L.parts (k + 1 + t)))) = (exP L k t).set (k + 1 + t) ((gl L.parts (k + 1 + t)).set k (exB L k (gl L.parts (k + 1 + t)))) := rfl
  have hlen : k + 1 + t < (exP L k t).length := by rw [Jq]; exact hlt
  have hA8 := hA7'.setPart (k := k + 1 + t) (j := k - 1) (by simp only [List.length_set]; exact hlen) (F7 _ _ y3) (by simp only [Cb hlen]; exact xs3.ext F7) j7 g8 y8
  simp only [Cb hlen, List.set_set] at hA8
  have k8 : ∀ {v z}, IsS M7 υ v z → IsS M7 υ8 v z := fun i => ((k3 i).ext F7).but mi (F7 _ _ y3) g8
  refine B5 _ _ _ _ rfl ((((he.trans F2.toM).but g3 mi').trans F7.toM).but g8 mi') (k8 inow) (k8 ip) (k8 iz) ⟨by assumption, ?_⟩
  exact hA8
 ·(refine fun _ υ => D0 fun u4 u6 u7 u8 zq0 => ?_; refine Dc zq0 fun zq1 he inow ip iz ht hA => ?_; subst zq1)
  rw [Bp, show ((L.parts.length : Int) - ((k : Int) + 1)).toNat = L.parts.length - (k + 1) by (exact ln 0x21212210221b3a1a21b3ea2ec0e82 [((↑L.parts.length : Int) - ((↑k : Int) + 1)).toNat, L.parts.length - (k + 1), L.parts.length, k] (ltn ((↑L.parts.length : Int) - ((↑k : Int) + 1)) (ln 0x2221b1ea0ec0b60111 [L.parts.length, k] hk)) (lsc L.parts.length (k + 1) (ln 0x22211b0a01011 [k, L.parts.length] hk)))] at hA
  refine zEA hA.sizes fun sk hsk hSk => ?_
  simp only at hSk
  refine hA.aSx ?_
  refine stL hA.bs.2.1 hsk k rfl (by rw [hSk.1]; exact o59 hkl hks) fun υ' g y => ?_
  have hA' := hA.setSize hsk hSk inow g y
  refine hQ M7 A7 υ' sub7 fr7 (he.but g (by rw [a7S]; exact aMS)) ?_
  unfold exL
  rw [hRR]
  exact hA'
end
theorem cR {B : Addr → Prop} {C : V → List V → Aa → (V → Aa → Prop) → Prop} {c : Tst} {a b r : Sts} {p : PySem.Pos} {ρ : Loc} {σ : Aa} {N : Loc → Aa → Prop} {R : V → Aa → Prop} {P : Bool → Aa → Prop} (h1 : ∀ Q, (∀ t σ, P t σ → Q t σ) → wpT B C c ρ σ Q)
  (h2 : ∀ t σ, P t σ → (t = true → Di B C a ρ σ (fun ρ σ => Di B C r ρ σ N R) R) ∧ (t = false → Di B C b ρ σ (fun ρ σ => Di B C r ρ σ N R) R)) : Di B C (.cons (.cond c a b p) r) ρ σ N R := h1 _ h2
structure Z1 (L : LC) (k j : Nat) : Prop where
 hb : K8 L
 hj : j < k
 hk9 : k ≤ 1000
 hk : k < L.parts.length
 hkr : k < L.rows.length
 hkl : j < (gl L.parts k).length
 hjl : j ≤ (gl L.parts j).length
 hks : j + 1 < L.sizes.length
 hz : 0 < gt L.sizes (j + 1)
 hrl : (gl L.rows k).length ≤ 1000
structure eO (L : LC) (k : Nat) : Prop where
 hb : K8 L
 hk0 : 0 < k
 hk : k < L.parts.length
 hkl : k - 1 < (gl L.parts k).length
 hks : k + 1 < L.sizes.length
structure eR (L : LC) (k : Nat) : Prop where
 hb : K8 L
 hk0 : 0 < k
 hk : k < L.parts.length
 hp9 : L.parts.length ≤ 1000
 hkr : k < L.rows.length
 hkl : (gl L.parts k).length = k
 hkm : (gl L.parts (k - 1)).length ≤ 1000
 hil : ∀ i, k < i → i < L.parts.length → k < (gl L.parts i).length
 hks : k + 1 < L.sizes.length
 hz : gt L.sizes k ≠ 0
 hz' : gt L.sizes (k + 1) ≠ 0
noncomputable def shD (L : LC) (k : Nat) : Nat → LC
 | 0 => L
 | t + 1 => Bq (shD L k t) k (k - 2 - t)
noncomputable def He (L : LC) (k : Nat) : LC := if 0 < k then Bq L k (k - 1) else L
structure N5 (I : Nat → Nat → LC → Prop) (m k : Nat) (L : LC) : Prop where
 parts : L.parts.length = L.rows.length
 r9 : L.rows.length ≤ 1000
 sh : 0 < k → Z1 L k (k - 1)
 up : 0 < k → eO (He L k) k
 ex : 0 < k → Bw (He L k) k = false → eR (He L k) k ∧ ∃ m', m' < m ∧ I m' (max 1 (k - 1)) (exL (He L k) k)
 dn : (k = 0 ∨ Bw (He L k) k = true) → (∀ t, t < k - 1 → Z1 (shD (He L k) k t) k (k - 2 - t)) ∧ ∃ m', m' < m ∧ I m' (k + 1) (shD (He L k) k (k - 1))
section
variable {h0 : Heap} {prog : Program} {w : World} {mg mb : Str → Option Value} (G : Gd (KK w) h0 mg mb) {n : Nat}
include G in
theorem bY {M : Addr → Prop} {s : Addr} {A : LA} {L : LC} {k j : Nat} {σ : Aa} {Q : V → Aa → Prop} (h : Ae h0 M σ s A L) (o : Z1 L k j)
  (hQ : ∀ A' σ', Ca M σ σ' → Ae h0 M σ' s A' (Bq L k j) → Q .none σ') : CC prog w h0 (n + 8) (.ref 280) [.ref s, .int k, .int j] σ Q :=
 T2 G h o.hb o.hj o.hk9 o.hk o.hkr o.hkl o.hjl o.hks o.hz o.hrl hQ
theorem Tk {m : Nat} {k : Nat} {I : Nat → Nat → LC → Prop} {L : LC} (h : N5 I m k L) (hk : k < L.rows.length) : k ≠ L.parts.length := by rw [h.parts]; exact ln 0x2211051011 [k, L.rows.length] hk
set_option maxHeartbeats 1000000 in
include G in
theorem eG {M : Addr → Prop} {s : Addr} {A : LA} {L : LC} {σ : Aa} {Q : V → Aa → Prop} (I : Nat → Nat → LC → Prop) (h : Ae h0 M σ s A L) (i0 : ∃ m, I m 0 L) (hI : ∀ m k L, I m k L → k < L.rows.length → N5 I m k L)
  (hQ : ∀ M' A' L' σ', (∀ m, M m → M' m) → (∀ m, M' m → M m ∨ σ m = none) → Ca M σ σ' → Ae h0 M' σ' s A' L' → (∃ m k, I m k L' ∧ L'.rows.length ≤ k) → Q .none σ') : CC prog w h0 (n + 9) (.ref 301) [.ref s] σ Q := by
 refine enter G [some (.ref s), none, none] (Xf _) rfl rfl ?_
 conv => whnf
 refine Ba (fun m ρ υ => ∃ k L A M' u, ρ = [some (.ref s), some (.int (k : Nat)), u] ∧ (∀ m, M m → M' m) ∧ (∀ m, M' m → M m ∨ σ m = none) ∧ Ca M σ υ ∧ Ae h0 M' υ s A L ∧ I m k L) (fun ρ υ => ∃ m k L A M', (∀ m, M m → M' m) ∧ (∀ m, M' m → M m ∨ σ m = none) ∧ Ca M σ υ ∧ Ae h0 M' υ s A L ∧ I m k L ∧ L.rows.length ≤ k) ?_ ?_ ?_
 ·refine zE i0 fun m hm => ?_
  exact Du m 0 L A M none ⟨rfl, fun _ q => q, fun _ q => .inl q, fun _ _ _ e => e, h, hm⟩
 ·(refine fun m _ υ => Jy fun k L A M' u zq0 => ?_; refine G0 zq0 fun zq1 hsub hfr he hA hm => ?_; subst zq1)
  have cm : ∀ {υ' υ'' : Aa}, Ca M σ υ' → Ca M' υ' υ'' → Ca M σ υ'' := fun e1 e2 a o na ea => e2 a o (fun q => by
   rcases hfr a q with q | q
   ·exact na q
   ·rw [q] at ea; cases ea) (e1 a o na ea)
  refine hA.aRx ?_
  refine iEA _ hA.rows ?_
  conv => whnf
  simp only [List.length_map, hA.len_rs]
  refine ⟨fun e => ?_, fun e => ?_⟩
  ·have e := of_decide_eq_true e
   have hk : k < L.rows.length := by exact ln 0x2221011e0e71 [k, L.rows.length] e
   have st := hI m k L hm hk
   have r9 := st.r9
   refine hA.aPx ?_
   refine iEA _ hA.parts ?_
   conv => whnf
   simp only [List.length_map, hA.len_ps]
   refine ⟨fun e2 => ?_, fun _ => ?_⟩
   ·have e2 := of_decide_eq_true e2
    exact absurd (Int.ofNat_inj.mp e2) (Tk st hk)
   refine U0 (join (P := (fun ρ υ' => ρ = [some (.ref s), some (.int (k : Nat)), u] ∧ ∃ A, Ca M σ υ' ∧ Ae h0 M' υ' s A (He L k))) (F := fun N => wpS _ _ _ _ _ N _) ?_ ?_)
   ·intro N hN
    refine And.intro (fun e2 => ?_) (fun e2 => ?_)
    ·have e2 := of_decide_eq_true e2
     have hk0 : 0 < k := by exact o97 e2
     refine And.intro (hA.self.inst) (?_)
     conv => whnf
     rw [show (k : Int) - 1 = ((k - 1 : Nat) : Int) by (exact ln 0x22121e1b0ec801b1a21 [k, k - 1] (lsc k 1 (ln 0x22201b00e0b71 [k] e2)))]
     refine bY G hA (st.sh hk0) fun A' υ' x y => ?_
     refine And.intro (rfl) (?_)
     refine hN _ _ ⟨rfl, iEA A' (cm he x) ?_⟩
     unfold He; rw [if_pos hk0]; exact y
    ·have e2 := of_decide_eq_false e2
     refine hN _ _ ⟨rfl, iEA A he ?_⟩
     unfold He; rw [if_neg (by exact ln 0x22200b40e0ba1 [k] e2)]; exact hA
   ·rintro _ υ1 ⟨rfl, A1, he1, hA1⟩
    refine cR (P := fun t υ2 => Ca M σ υ2 ∧ Ae h0 M' υ2 s A1 (He L k) ∧ (t = true → 0 < k ∧ Bw (He L k) k = false) ∧ (t = false → k = 0 ∨ Bw (He L k) k = true)) ?_ ?_
    ·intro N hN
     refine And.intro (fun e3 => ?_) (fun e3 => ?_)
     ·have e3 := of_decide_eq_true e3
      have hk0 : 0 < k := by exact o97 e3
      have uo := st.up hk0
      refine And.intro (hA1.self.inst) (?_)
      refine CC.up (n := n + 5) (Ht G hA1 uo.hb uo.hk0 uo.hk uo.hkl uo.hks fun υ2 x => ?_) (ln 0x228b0a5b0a00 [n])
      refine hN _ _ ⟨cm he1 x.toM, hA1.ext x, fun z => ⟨hk0, by simpa using z⟩, fun z => .inr (by simpa using z)⟩
     ·have e3 := of_decide_eq_false e3
      exact hN _ _ ⟨he1, hA1, nofun, fun _ => .inl (o77 e3)⟩
    ·refine fun t υ2 => Xl fun he2 hA2 ht hf => ?_
     refine ⟨fun z => ?_, fun z => ?_⟩
     ·refine zA (ht z) fun hk0 hu => ?_
      refine Ec (st.ex hk0 hu) fun xo m' hm' hI' => ?_
      refine And.intro (hA2.self.inst) (?_)
      refine CC.up (n := n + 7) (Kq G hA2 xo.hb xo.hk0 xo.hk xo.hp9 xo.hkr xo.hkl xo.hkm xo.hil xo.hks xo.hz xo.hz' fun M3 A3 υ3 s3 f3 x3 y3 => ?_) (ln 0x228b0a7b0a00 [n])
      refine And.intro (rfl) (?_)
      refine iEA m' hm' (E8 (max 1 (k - 1)) _ A3 M3 u ⟨?_, fun z hz => s3 z (hsub z hz), fun z hz => ?_, cm he2 x3, y3, hI'⟩)
      ·rw [show max (1 : Int) ((k : Int) - 1) = ((max 1 (k - 1) : Nat) : Int) by (exact fD hk0)]; rfl
      ·rcases f3 z hz with q | q
       ·exact hfr z q
       ·exact .inr (he2.none hA2.live hsub q)
     ·refine Ec (st.dn (hf z)) fun hd m' hm' hI' => ?_
      refine And.intro (⟨⟨by lia, by lia⟩, ⟨by lia, by lia⟩, by first | rfl | trivial⟩) (?_)
      refine Ar (fun t ρ υ => ∃ u A3, ρ = [some (.ref s), some (.int (k : Nat)), u] ∧ Ca M σ υ ∧ t ≤ k - 1 ∧ Ae h0 M' υ s A3 (shD (He L k) k t)) (Br u A1 rfl he2 (Nat.zero_le _) hA2) (fun _ _ _ _ => trivial) ?_ ?_
      ·(refine fun t _ υ3 it => Uq fun u3 A3 zq0 he3 ht3 hA3 => ?_; subst zq0; refine fun hit => ?_)
       (refine zA (Ff hit) fun zq0 hlt => ?_; subst zq0)
       refine And.intro (hA3.self.inst) (?_)
       conv => whnf
       rw [show (k : Int) - 2 - t = ((k - 2 - t : Nat) : Int) by (exact ln 0x2221122e1e2b0ecc802b3a2312a22 [k, t, k - 2 - t, k - 2] (lsc (k - 2) t (ln 0x22121000e2b2ecc1bd722b1a22 [t, k - 2, k] (lsc k 2 (ln 0x22202b01e2b0ecc1bd71 [k, t] hlt)) hlt)) (lsc k 2 (ln 0x22202b01e2b0ecc1bd71 [k, t] hlt)))]
       refine bY G hA3 (hd t (ln 0x212210121b1a20e2b2ecc1bd72 [t, k - 1, k] hlt (lsc k 1 (ln 0x22201b01e2b0ecc1bd71 [k, t] hlt)))) fun A4 υ4 x4 y4 => ?_
       exact And.intro (rfl) (Br _ A4 rfl (cm he3 x4) (ln 0x212211b0a021b1a20e2b2ecc1bd72 [t, k - 1, k] hlt (lsc k 1 (ln 0x22201b01e2b0ecc1bd71 [k, t] hlt))) y4)
      ·(refine fun _ υ3 => Uq fun u3 A3 zq0 he3 ht3 hA3 => ?_; subst zq0)
       rw [Fe, show ((k : Int) - 2 - -1).toNat = k - 1 by omega] at hA3
       exact iEA m' hm' (E8 (k + 1) _ A3 M' _ ⟨rfl, hsub, hfr, he3, hA3, hI'⟩)
  ·have e := of_decide_eq_false e
   exact E8 m k L A M' ⟨hsub, hfr, he, hA, hm, ln 0x2221000e1ea1 [L.rows.length, k] e⟩
 ·(refine fun _ υ => Jy fun m k L A M' zq0 => ?_; refine G0 zq0 fun hsub hfr he hA hm hk => ?_)
  exact hQ M' A L υ hsub hfr he hA (C5 m k hm hk)
end
noncomputable def Sts.hd : Sts → St
 | .cons s _ => s
 | .nil => .ret0 ⟨0, 0, 0, 0⟩
noncomputable def Sts.tl : Sts → Sts
 | .cons _ r => r
 | .nil => .nil
noncomputable def fnd (sz pk pj : List Int) (d0 : Int) : Nat → Int
 | 0 => d0
 | i + 1 => (gt sz (i + 1) * fnd sz pk pj d0 i - gt pk i * gt pj i).tdiv (gt sz i)
noncomputable def tkP (L : LC) (k : Nat) : Nat → List Int
 | 0 => []
 | j + 1 => tkP L k j ++ [fnd L.sizes (tkP L k j) (gl L.parts j) (Aq (gl L.rows k) (gl L.rows j)) j]
theorem Jl (L : LC) (k : Nat) : ∀ j, (tkP L k j).length = j
 | 0 => rfl
 | j + 1 => by rw [tkP, List.length_append, Jl L k j]; rfl
noncomputable def tkD (L : LC) (k : Nat) : Int := fnd L.sizes (tkP L k k) (tkP L k k) (Aq (gl L.rows k) (gl L.rows k)) k
noncomputable def tkL (L : LC) (k : Nat) : LC := ⟨L.rows, L.sizes ++ [tkD L k], L.parts ++ [tkP L k k], L.top, L.bot⟩
theorem Fw {l m : List (List Int)} {j : Nat} (h : j < l.length) : gl (l ++ m) j = gl l j := by
 unfold gl; rw [List.getD_eq_getElem?_getD, List.getD_eq_getElem?_getD, List.getElem?_append_left h]
theorem Cl {l : List (List Int)} {v : List Int} : gl (l ++ [v]) l.length = v := by
 unfold gl; rw [List.getD_eq_getElem?_getD, List.getElem?_append_right (Nat.le_refl _)]; simp
theorem I4 {l : List (List Int)} {v u : List Int} : (l ++ [v]).set l.length u = l ++ [u] := by
 rw [List.set_append_right _ _ (Nat.le_refl _)]; simp
structure N3 (L : LC) (k : Nat) : Prop where
 hb : K8 L
 hp : L.parts.length = k
 hs : L.sizes.length = k + 1
 hr : k < L.rows.length
 hr9 : L.rows.length ≤ 1000
 hl : ∀ j, j < k → (gl L.parts j).length = j
 hw : ∀ j, (gl L.rows j).length ≤ 1000
 hz : ∀ i, i ≤ k → gt L.sizes i ≠ 0
 h1 : ∀ j, j < k → ∀ i, i ≤ j → Bnd KB (fnd L.sizes (tkP L k j) (gl L.parts j) (Aq (gl L.rows k) (gl L.rows j)) i)
 h2 : ∀ i, i ≤ k → Bnd KB (fnd L.sizes (tkP L k k) (tkP L k k) (Aq (gl L.rows k) (gl L.rows k)) i)
 h3 : ∀ j i, j ≤ k → Bnd KB (gt (tkP L k j) i)
section
variable {h0 : Heap} {prog : Program} {w : World} {mg mb : Str → Option Value} (G : Gd (KK w) h0 mg mb) {n : Nat}
theorem apx {B : Addr → Prop} {σ : Aa} {x : Addr} {l : List V} {v : V} {Q : Aa → Prop} (hB : B x) (h : σ x = some (.list l)) (hl : l.length < 16777216) (q : ∀ σ', Ag x σ σ' → σ' x = some (.list (l ++ [v])) → Q σ') :
  ∃ xs, (B x ∧ σ x = some (.list xs) ∧ xs.length < LIM) ∧ ∀ σ', Ag x σ σ' → σ' x = some (.list (xs ++ [v])) → Q σ' := iEA l ⟨hB, h, hl⟩ q
set_option maxHeartbeats 1000000 in
include G in
theorem Oa {M : Addr → Prop} {s : Addr} {A : LA} {L : LC} {k : Nat} {σ : Aa} {r : Sts} {N : Loc → Aa → Prop} {R : V → Aa → Prop} (h : Ae h0 M σ s A L) (ok : N3 L k)
  (hQ : ∀ M' A' σ' u2 u3 u4 u5, (∀ m, M m → M' m) → (∀ m, M' m → M m ∨ σ m = none) → Ca M σ σ' → Ae h0 M' σ' s A' (tkL L k) → Di (Bs h0) (CC prog w h0 (n + 6)) r [some (.ref s), some (.int (k : Nat)), u2, u3, u4, u5] σ' N R) :
  Di (Bs h0) (CC prog w h0 (n + 6)) (.cons Au.hd (.cons Au.tl.hd r)) [some (.ref s), some (.int (k : Nat)), none, none, none, none] σ N R := by
 have hML := Ch
 have hKB := Gb
 have lp := h.len_ps
 have lr := h.len_rs
 have okp := ok.hp
 have okr := ok.hr
 have okr9 := ok.hr9
 have oks := ok.hs
 refine h.aPx ?_
 refine And.intro (⟨_, h.parts⟩) (?_)
 conv => whnf
 intro p σ1 b1 n1 e1 y1
 have h1 := h.more n1 e1 y1
 refine apx h1.bs.2.2.1 h1.parts (by rw [List.length_map]; exact ln 0x22222210000007fb013e83fb303212121024 [A.ps.length, L.parts.length, k, L.rows.length] lp okp okr okr9) fun σ2 x2 y2 => ?_
 have h2 := h1.appParts (l := []) (vs := []) y1 .nil (.inr rfl) b1 (h.not_in n1) x2 y2
 have e2 : Ca M σ σ2 := e1.toM.but x2 h.mu.2.2.1
 have sub : ∀ m, M m → (M m ∨ m = p) := fun m hm => .inl hm
 have fr : ∀ m, (M m ∨ m = p) → M m ∨ σ m = none := fun m hm => by
  rcases hm with hm | hm
  ·exact .inl hm
  ·right; rw [hm]; exact n1
 generalize hM : (fun m => M m ∨ m = p) = M2 at h2
 have sub2 : ∀ m, M m → M2 m := fun m hm => by rw [← hM]; exact sub m hm
 have fr2 : ∀ m, M2 m → M m ∨ σ m = none := fun m hm => by rw [← hM] at hm; exact fr m hm
 have mp : M2 p := by rw [← hM]; exact .inr rfl
 have gp : ga (A.ps ++ [p]) k = p := by
  unfold ga
  rw [List.getD_eq_getElem?_getD, List.getElem?_append_right (by exact ln 0x22221001222022 [A.ps.length, k, L.parts.length] lp okp), lp, okp]; simp
 generalize hA2 : ({ A with ps := A.ps ++ [p] } : LA) = A2 at h2
 have a2p : A2.ps = A.ps ++ [p] := by rw [← hA2]
 have a2l : A2.ps.length = k + 1 := by rw [a2p, List.length_append, lp, okp]; rfl
 have a2r : A2.rs.length = L.rows.length := by rw [← hA2]; exact lr
 have a2S : M A2.aS := by rw [← hA2]; exact h.mu.2.1
 have aps : ga A2.ps k = p := by rw [a2p]; exact gp
 have hnp : ∀ {υ υ' : Aa}, Ca M σ υ → Ag p υ υ' → Ca M σ υ' := fun e x a o na ea => x a o (fun q => by rw [q, n1] at ea; cases ea) (e a o na ea)
 have cm : ∀ {υ' υ'' : Aa}, Ca M σ υ' → Ext υ' υ'' → Ca M σ υ'' := fun e1 e2 => e1.trans e2.toM
 refine And.intro (rfl) (?_)
 refine And.intro (⟨by lia, by lia⟩) (?_)
 refine Ar (fun j ρ υ => ∃ u2 u3 u4 u5, ρ = [some (.ref s), some (.int (k : Nat)), u2, u3, u4, u5] ∧ Ca M σ υ ∧ j ≤ k + 1 ∧ Ae h0 M2 υ s A2 ⟨L.rows, if j ≤ k then L.sizes else L.sizes ++ [tkD L k], L.parts ++ [tkP L k (min j k)], L.top, L.bot⟩) (Sc none none none none ⟨rfl, e2, Nat.zero_le _, by rw [if_pos (Nat.zero_le _), Nat.zero_min]; exact h2⟩) (fun _ _ _ _ => trivial) ?_ ?_
 ·(refine fun j _ υ it => D0 fun u2 u3 u4 u5 zq0 => ?_; refine G1 zq0 fun zq1 he hj hA => ?_; subst zq1; refine fun hit => ?_)
  (refine zA (Bx hit) fun zq0 hlt => ?_; subst zq0)
  have hjk : j ≤ k := by exact ln 0x2221001b1ea0e0ba71 [j, k] hlt
  rw [if_pos hjk, Nat.min_eq_left hjk] at hA
  rw [show (0 : Int) + (j : Int) = (j : Int) by (exact o2)]
  refine Ec (hA.rowsL.at (i := k) okr) fun _ wk wk1 wk2 => ?_
  refine Ec (hA.rowsL.at (i := j) (show j < L.rows.length by exact ln 0x22221011b2ea0e0ba71212 [j, L.rows.length, k] okr hlt)) fun _ wj wj1 wj2 => ?_
  simp only at wk2 wj2
  refine hA.aRx ?_
  refine ixR hA.rows k rfl (ln 0x21221012122012 [k, A2.rs.length, L.rows.length] okr a2r) ?_
  refine hA.aRx ?_
  refine ixR hA.rows j rfl (ln 0x221221011b2ea0e0ba73123213 [j, A2.rs.length, k, L.rows.length] okr a2r hlt) ?_
  refine hA.wx ?_
  refine hA.mulx ?_
  refine CC.up (n := n + 4) (eH G (k := KB) hA.live hA.nought wk1 wj1 wk2 wj2 (fun i => ok.hb.rows _ _) (fun i => ok.hb.rows _ _) (by have := ok.hw k; exact ln 0x2241221028a03e83fb10400005fb027ffff86fb223 [KB, (gl L.rows k).length, ML] hML hKB this) fun t υ1 f1 i1 => ?_) (ln 0x226b0a4b0a00 [n])
  have hA1 := hA.ext f1
  have he1 := cm he f1
  have pj : ∃ pj, (if j = k then pj = tkP L k k else pj = gl L.parts j) ∧ j ≤ pj.length ∧ (∀ i, i ≤ j → Bnd KB (fnd L.sizes (tkP L k j) pj (Aq (gl L.rows k) (gl L.rows j)) i)) ∧ ∀ i, Bnd KB (gt pj i) := by
   by_cases q : j = k
   ·subst q
    exact Ar (tkP L j j) (by rw [if_pos rfl]) (by rw [Jl]; exact Nat.le_refl _) ok.h2 (fun i => ok.h3 j i (Nat.le_refl _))
   ·refine Ar (gl L.parts j) (by rw [if_neg q]) (by rw [ok.hl j (ln 0x2221011011 [j, k] (Nat.lt_of_le_of_ne (ln 0x2221001b1ea0e0ba71 [j, k] hlt) q))]; exact Nat.le_refl _) (ok.h1 j (ln 0x2221011011 [j, k] (Nat.lt_of_le_of_ne (ln 0x2221001b1ea0e0ba71 [j, k] hlt) q))) (fun i => ok.hb.parts j i)
  refine L3 pj fun pj pj1 pj2 pj3 pj4 => ?_
  refine And.intro (⟨by lia, by lia⟩) (?_)
  refine Ar (fun i ρ ω => ∃ t u4 u5, ρ = [some (.ref s), some (.int (k : Nat)), some (.int (j : Nat)), some (.ref t), u4, u5] ∧ Ca M σ ω ∧ i ≤ j ∧ Ae h0 M2 ω s A2 ⟨L.rows, L.sizes, L.parts ++ [tkP L k j], L.top, L.bot⟩ ∧ IsS M2 ω (.ref t) (fnd L.sizes (tkP L k j) pj (Aq (gl L.rows k) (gl L.rows j)) i)) (Bn t _ _ rfl he1 (Nat.zero_le _) hA1 i1) (fun _ _ _ _ => trivial) ?_ ?_
  ·(refine fun i _ ω it => Bm fun t u4 u5 zq0 heω hij hω it' => ?_; subst zq0; refine fun hit => ?_)
   (refine zA (Bx hit) fun zq0 hlt => ?_; subst zq0)
   have hij : i < j := by exact o10 hlt
   rw [show (0 : Int) + (i : Int) = (i : Int) by (exact o2)]
   refine Ec (hω.partsL.at (i := k) (by simp; exact o98 okp)) fun _ xs xs1 xs2 => ?_
   simp only [show gl (L.parts ++ [tkP L k j]) k = tkP L k j by rw [← okp]; exact Cl] at xs2
   refine zEA (xs2.at (i := i) (by rw [Jl]; exact hij)) fun vk vk1 vk2 => ?_
   refine zEA hω.sizes fun ss hss hS => ?_
   simp only at hS
   refine zEA (hS.at (i := i) (show i < L.sizes.length by exact ln 0x222121013e0e0ba71b2ea3e0ba71b2a123 [i, L.sizes.length, k, j] oks ‹_› hlt)) fun z0 z01 z02 => ?_
   refine zEA (hS.at (i := i + 1) (show i + 1 < L.sizes.length by exact ln 0x2221211b0a13e0e0ba71b2ea3e0ba71b2a123 [i, L.sizes.length, k, j] oks ‹_› hlt)) fun z1 z11 z12 => ?_
   conv => whnf
   refine Hj (P := (fun v τ => ω = τ ∧ IsS M2 ω v (gt pj i))) (F := fun N => (decide _ = true → wpE _ _ _ _ _ N) ∧ (decide _ = false → wpE _ _ _ _ _ N)) ?_ ?_
   ·intro N' hN
    refine ⟨fun e => ?_, fun e => ?_⟩
    ·have e := of_decide_eq_true e
     have e : j = k := by exact ln 0x12221021e0e81 [j, k] e
     rw [if_pos e] at pj1
     refine hω.aPx ?_
     refine ixR hω.parts k rfl (o61 oks a2l) ?_
     refine ixL xs1 i vk rfl vk1 ?_
     refine hN _ _ ⟨rfl, ?_⟩
     rw [pj1, ← e]
     rw [← e] at vk2
     exact vk2
    ·have e := of_decide_eq_false e
     have e : j ≠ k := fun q => e (by rw [q])
     rw [if_neg e] at pj1
     refine Ec (hω.partsL.at (i := j) (by simp; exact ln 0x22121b1a011b2ea0e0ba72122 [j, L.parts.length, k] okp ‹_›)) fun _ ys ys1 ys2 => ?_
     simp only [Fw (show j < L.parts.length by exact ln 0x22121012012122 [j, L.parts.length, k] okp (Nat.lt_of_le_of_ne (ln 0x2221001b1ea0e0ba71 [j, k] ‹_›) e))] at ys2
     refine zEA (ys2.at (i := i) (by rw [ok.hl j (ln 0x2221011011 [j, k] (Nat.lt_of_le_of_ne (ln 0x2221001b1ea0e0ba71 [j, k] ‹_›) e))]; exact hij)) fun vj vj1 vj2 => ?_
     refine hω.aPx ?_
     refine ixR hω.parts j rfl (ln 0x22121011b2ea0e0ba71b2a122 [j, A2.ps.length, k] a2l ‹_›) ?_
     refine ixL ys1 i vj rfl vj1 ?_
     exact hN _ _ ⟨rfl, by rw [pj1]; exact vj2⟩
   ·(refine fun vp _ => yA fun zq0 ip => ?_; subst zq0)
    refine And.intro (hω.self.inst) (?_)
    refine And.intro (hω.self.inst) (?_)
    refine hω.aSx ?_
    refine ixL hss (i + 1) z1 (o8) z11 ?_
    refine hω.aPx ?_
    refine ixR hω.parts k rfl (o61 oks a2l) ?_
    refine ixL xs1 i vk rfl vk1 ?_
    refine CC.up (n := n + 5) (Mg G (k := KB) hω.self hω.live z12 it' vk2 ip (ok.hb.sizes _) (pj3 i (by omega)) (ok.h3 j i hjk) (pj4 i) (ln 0x24121102fb028a0400005fb027ffff86fb122 [KB, ML] hML hKB) fun t1 ω1 f1 j1 => ?_) (ln 0x226b0a5b0a00 [n])
    have hω1 := hω.ext f1
    refine hω1.aSx ?_
    refine ixL (f1 _ _ hss) i z0 rfl z01 ?_
    conv => whnf
    have bx : Bnd (2 * KB + 1) (gt L.sizes (i + 1) * fnd L.sizes (tkP L k j) pj (Aq (gl L.rows k) (gl L.rows j)) i - gt (tkP L k j) i * gt pj i) := Bnd.sub ((Bnd.mul (ok.hb.sizes _) (pj3 i (by omega))).mono (o17)) ((Bnd.mul (ok.h3 j i hjk) (pj4 i)).mono (o17))
    refine Jw G hω1.self hω1.live j1 (z02.ext f1) (bx.mono (o94 hML hKB)) ((ok.hb.sizes _).mono (o60 hML hKB)) (ok.hz i (ln 0x22221002e0e0ba71b1ea2e0ba72 [i, k, j] ‹_› hlt)) fun t2 ω2 f2 j2 => ?_
    exact Bn t2 _ _ rfl (cm (cm heω f1) f2) hij (hω1.ext f2) j2
  ·(refine fun _ ω => Bm fun t u4 u5 zq0 heω hij hω it' => ?_; subst zq0)
   rw [Bp, show ((j : Int) - 0).toNat = j by rfl] at it'
   refine And.intro (fun e => ?_) (fun e => ?_)
   ·have e := of_decide_eq_true e
    have e : j < k := by exact ln 0x2221011e0e71 [j, k] e
    rw [if_neg (by exact ln 0x2211051e0e71 [j, k] ‹_›)] at pj1
    subst pj1
    refine Ec (hω.partsL.at (i := k) (by simp; exact o98 okp)) fun _ xs xs1 xs2 => ?_
    simp only [show gl (L.parts ++ [tkP L k j]) k = tkP L k j by rw [← okp]; exact Cl] at xs2
    refine hω.aPx ?_
    refine ixR hω.parts k rfl (o61 oks a2l) ?_
    refine And.intro (⟨_, xs1⟩) (?_)
    refine apx (hω.bs.2.2.2 _ (D7 (o61 oks a2l))) xs1 (by rw [xs2.1, Jl]; exact ln 0x2222210000007fb011e0e73e83fb202113 [j, k, L.rows.length] okr okr9 ‹_›) fun ω' x y => ?_
    have hω' := hω.appPart (k := k) (by simp; exact o98 okp) xs1 (by simp only [show gl (L.parts ++ [tkP L k j]) k = tkP L k j by rw [← okp]; exact Cl]; exact xs2) it' x y
    simp only [show gl (L.parts ++ [tkP L k j]) k = tkP L k j by rw [← okp]; exact Cl] at hω'
    refine And.intro (rfl) (Sc _ _ _ _ ⟨rfl, hnp heω (by rw [← aps]; exact x), ln 0x2221b1a1b0a01e0e71 [j, k] ‹_›, ?_⟩)
    rw [if_pos ‹_›, Nat.min_eq_left ‹_›]
    have : (L.parts ++ [tkP L k j]).set k (tkP L k j ++ [fnd L.sizes (tkP L k j) (gl L.parts j) (Aq (gl L.rows k) (gl L.rows j)) j]) = L.parts ++ [tkP L k (j + 1)] := by
     rw [← okp] at *; exact I4
    rw [this] at hω'
    exact hω'
   ·have e := of_decide_eq_false e
    have e : j = k := by exact ln 0x2020221021e0ea1b1ea0e0ba72 [j, k] hlt e
    subst e
    rw [if_pos rfl] at pj1
    subst pj1
    refine zEA hω.sizes fun ss hss hS => ?_
    refine hω.aSx ?_
    refine And.intro (⟨_, hss⟩) (?_)
    refine apx hω.bs.2.1 hss (by rw [hS.1]; show L.sizes.length < _; exact ln 0x2222210000007fb011b2a021213e83fb103 [L.sizes.length, L.rows.length, j] okr9 okr oks) fun ω' x y => ?_
    have hω' := hω.appSize hss hS it' x y
    refine And.intro (rfl) (Sc _ _ _ _ ⟨rfl, heω.but x a2S, Nat.le_refl _, ?_⟩)
    rw [if_neg (by exact ln 0x2201b0a30 [j]), Nat.min_eq_right (by omega)]
    exact hω'
 ·(refine fun _ υ => D0 fun u2 u3 u4 u5 zq0 => ?_; refine G1 zq0 fun zq1 he hj hA => ?_; subst zq1)
  rw [Bp, show ((k : Int) + 1 - 0).toNat = k + 1 by rfl, if_neg (by exact ln 0x2201b0a30 [k]), Nat.min_eq_right (by exact ln 0x221b0a000 [k])] at hA
  exact hQ M2 A2 υ u2 u3 u4 u5 sub2 fr2 he hA
include G in
theorem T1 {M : Addr → Prop} {s : Addr} {A : LA} {L : LC} {k : Nat} {σ : Aa} {Q : V → Aa → Prop} (h : Ae h0 M σ s A L) (ok : N3 L k) (hd : tkD L k ≠ 0)
  (hQ : ∀ M' A' σ', (∀ m, M m → M' m) → (∀ m, M' m → M m ∨ σ m = none) → Ca M σ σ' → Ae h0 M' σ' s A' (tkL L k) → Q .none σ') : CC prog w h0 (n + 7) (.ref 273) [.ref s, .int (k : Nat)] σ Q := by
 refine enter G [some (.ref s), some (.int (k : Nat)), none, none, none, none] (Ny _) rfl rfl ?_
 refine Oa G h ok (r := Au.tl.tl) fun M' A' σ' u2 u3 u4 u5 s1 s2 s3 s4 => ?_
 have lp := s4.len_ps
 refine zEA s4.sizes fun ss hss hS => ?_
 refine zEA (hS.at (i := k + 1) (by show k + 1 < (L.sizes ++ [tkD L k]).length; rw [List.length_append, ok.hs]; exact Nat.lt_succ_self _)) fun z z1 z2 => ?_
 have ez : gt (tkL L k).sizes (k + 1) = tkD L k := by
  show gt (L.sizes ++ [tkD L k]) (k + 1) = _
  rw [Cu (by rw [ok.hs]; exact Nat.le_refl _), ok.hs]; simp [gt]
 rw [ez] at z2
 refine s4.aSx ?_
 refine ixL hss (k + 1) z (o8) z1 ?_
 refine CC.up (n := n + 1) (O2 G z2 ?_) (ln 0x226b0a1b0a00 [n])
 rw [if_neg hd]
 refine And.intro (fun e => ?_) (fun _ => ?_)
 ·have e := of_decide_eq_true e
  split at e <;> omega
 ·skip
  exact hQ M' A' σ' s1 s2 s3 s4
end
structure IF (M : Addr → Prop) (σ : Aa) (rs : List Addr) (ls : List (List Int)) : Prop where
 rows : Dn M σ rs ls
 nought : IsS M σ (.ref 214) 0
 live : C6 M σ
 rsM : ∀ r ∈ rs, ¬ M r
section
variable {M : Addr → Prop} {σ σ' : Aa}
theorem IF.ext {rs : List Addr} {ls : List (List Int)} (h : IF M σ rs ls) (e : Ext σ σ') : IF M σ' rs ls := ⟨h.rows.ext e, h.nought.ext e, h.live.ext e, h.rsM⟩
theorem IsS.butd {x : Addr} {l : List V} {v : V} {z : Int} (h : IsS M σ v z) (hl : σ x = some (.dict l)) (e : Ag x σ σ') : IsS M σ' v z := by
 (refine Be h fun t a h1 h2 zq0 h5 => ?_; refine zEA zq0 fun li h3 h4 => ?_)
 exact Br t a h1 (e _ _ (fun q => by rw [q, hl] at h2; cases h2) h2) (iEA li (e _ _ (fun q => by rw [q, hl] at h3; cases h3) h3) h4) h5
theorem Bh.butd {x : Addr} {l : List V} {vs : List V} {xs : List Int} (h : Bh M σ vs xs) (hl : σ x = some (.dict l)) (e : Ag x σ σ') : Bh M σ' vs xs := ⟨h.1, fun i v y h1 h2 => (h.2 i v y h1 h2).butd hl e⟩
theorem Dn.butd {x : Addr} {l : List V} {as : List Addr} {ls : List (List Int)} (h : Dn M σ as ls) (hl : σ x = some (.dict l)) (e : Ag x σ σ') : Dn M σ' as ls :=
 ⟨h.1, fun i a r h1 h2 => by
  refine zEA (h.2 i a r h1 h2) fun vs q1 q2 => ?_
  exact iEA vs (e _ _ (fun q => by rw [q, hl] at q1; cases q1) q1) (q2.butd hl e)⟩
theorem IF.butd {x : Addr} {l l' : List V} {rs : List Addr} {ls : List (List Int)} (h : IF M σ rs ls) (hl : σ x = some (.dict l)) (e : Ag x σ σ') (e' : σ' x = some (.dict l')) : IF M σ' rs ls := ⟨h.rows.butd hl e, h.nought.butd hl e, h.live.but e e', h.rsM⟩
theorem IF.more {r : Addr} {o : Ed} {rs : List Addr} {ls : List (List Int)} (h : IF M σ rs ls) (hr : σ r = none) (e : Ext σ σ') (e' : σ' r = some o) : IF (fun m => M m ∨ m = r) σ' rs ls := by
 refine ⟨(h.rows.more hr).ext e, (h.nought.more hr).ext e, fun m hm => ?_, fun q hq z => ?_⟩
 ·rcases hm with hm | hm
  ·exact h.live.ext e m hm
  ·rw [hm, e']; simp
 ·rcases z with z | z
  ·exact h.rsM q hq z
  ·obtain ⟨i, hi, rfl⟩ := List.getElem_of_mem hq
   have h1 := List.getElem?_eq_getElem hi
   have h2 : i < ls.length := by rw [← h.rows.1]; exact hi
   refine zEA (h.rows.2 i _ _ h1 (Fd h2)) fun vs q1 _ => ?_
   rw [z, hr] at q1; cases q1
theorem sta {B : Addr → Prop} {x dx : Addr} {fs : List V} {k : Nat} {v : V} {Q : Aa → Prop} (hB : B dx) (h1 : σ x = some (.inst dx)) (h2 : σ dx = some (.dict fs)) (hk : fs.length = k) (q : ∀ σ', Ag dx σ σ' → σ' dx = some (.dict (fs ++ [v])) → Q σ') :
  ∃ dx vs, (B dx ∧ σ x = some (.inst dx) ∧ σ dx = some (.dict vs) ∧ k ≤ vs.length) ∧ ∀ σ', Ag dx σ σ' → σ' dx = some (.dict (if k < vs.length then vs.set k v else vs ++ [v])) → Q σ' :=
 (C5 dx fs ⟨hB, h1, h2, by exact ln 0x2121000121 [k, fs.length] hk⟩ (fun σ' e1 e2 => q σ' e1 (by rw [e2, if_neg (by exact ln 0x2221040121 [k, fs.length] hk)])))
end
section
variable {h0 : Heap} {prog : Program} {w : World} {mg mb : Str → Option Value} (G : Gd (KK w) h0 mg mb) {n : Nat}
set_option maxHeartbeats 1000000 in
include G in
theorem bZ {M : Addr → Prop} {s dx a : Addr} {as : List Addr} {ls : List (List Int)} {tp bt : Int} {σ : Aa} {Q : V → Aa → Prop} (hs : σ s = some (.inst dx)) (hdx : σ dx = some (.dict [])) (hB : Bs h0 dx) (ha : σ a = some (.list (as.map .ref))) (hl : Dn M σ as ls) (hn : IsS M σ (.ref 214) 0) (hlive : C6 M σ) (hlen : ls.length ≤ 1000)
  (ht : Bnd ML tp) (hb : Bnd ML bt)
  (hQ : ∀ M' A σ', (∀ m, M m → M' m) → (∀ m, M' m → M m ∨ σ m = none) → Ag dx σ σ' → Ae h0 M' σ' s A ⟨ls, [1], [], tp, bt⟩ → Q .none σ') :
  CC prog w h0 (n + 3) (.ref 245) [.ref s, .ref a, .int tp, .int bt, .int 8, .ref 315, .ref 357] σ Q := by
 have hML := Ch
 refine enter G [some (.ref s), some (.ref a), some (.int tp), some (.int bt), some (.int 8), some (.ref 315), some (.ref 357)] (Pd _) rfl rfl ?_
 refine iEA _ ha ?_
 refine ⟨by rw [List.length_map, List.length_map, hl.1]; show _ ≤ 16777216; exact o62 hlen, Ar (fun acc υ => Ext σ υ ∧ ∃ rs, acc = rs.map V.ref ∧ rs.length ≤ ls.length ∧ (∀ i r, rs[i]? = some r → ∃ vs, υ r = some (.list vs) ∧ Bh M υ vs (gl ls i)) ∧ ∀ r ∈ rs, ¬ M r) ⟨.refl, Ar ([]) rfl (Nat.zero_le _) (fun i r h => by simp at h) (fun r h => nomatch h)⟩ ?_ ?_ ?_⟩
 ·refine fun acc υ => yA fun he _ => ?_
  exact he _ _ ha
 ·(refine fun acc υ it => Ur fun he rs zq0 hle hrs hrM => ?_; subst zq0; refine fun hit => ?_)
  rw [List.length_map] at hit
  have hlt : rs.length < as.length := by
   rcases Nat.lt_or_ge rs.length as.length with q | q
   ·exact q
   ·rw [List.getElem?_eq_none (by simpa using q)] at hit; cases hit
  rw [List.getElem?_map, List.getElem?_map, Bz hlt] at hit
  cases hit
  refine Ec (hl.at (i := rs.length) (by rw [← hl.1]; exact hlt)) fun _ vs v1 v2 => ?_
  refine iEA _ (he _ _ v1) ?_
  rw [Sl]
  intro r υ' b1 n1 e1 y1
  refine ⟨he.trans e1, Ar (rs ++ [r]) (by simp) (by rw [List.length_append, List.length_singleton, ← hl.1]; exact hlt) (fun i q hq => ?_) (fun q hq => ?_)⟩
  ·rcases Nat.lt_or_ge i rs.length with z | z
   ·rw [List.getElem?_append_left z] at hq
    refine zEA (hrs i q hq) fun us u1 u2 => ?_
    exact iEA us (e1 _ _ u1) (u2.ext e1)
   ·rw [List.getElem?_append_right z] at hq
    rcases Nat.eq_zero_or_pos (i - rs.length) with y | y
    ·rw [y] at hq; cases hq
     rw [show i = rs.length by (exact ln 0x212122102012a20b222 [i, rs.length, i - rs.length] y (lsc i rs.length (ln 0x2221001001 [rs.length, i] z)))]
     exact iEA vs y1 (v2.ext (he.trans e1))
    ·rw [List.getElem?_eq_none (by simp; assumption)] at hq; cases hq
  ·rcases List.mem_append.mp hq with z | z
   ·exact hrM q z
   ·rw [List.mem_singleton.mp z]; exact (hlive.ext he).not n1
 ·(refine fun acc υ => Ur fun he rs zq0 hle hrs hrM => ?_; subst zq0; refine fun hlen' => ?_)
  rw [List.length_map, List.length_map, List.length_map, hl.1] at hlen'
  intro aR σ1 b1 n1 e1 y1
  have F0 : IF M υ rs ls := ⟨⟨hlen', fun i r l h1 h2 => by
   refine zEA (hrs i r h1) fun vs q1 q2 => ?_
   have hi : i < ls.length := by
    rcases Nat.lt_or_ge i ls.length with q | q
    ·exact q
    ·rw [List.getElem?_eq_none q] at h2; cases h2
   rw [Fd hi] at h2; cases h2
   exact iEA vs q1 q2⟩, hn.ext he, hlive.ext he, hrM⟩
  have F1 := F0.more n1 e1 y1
  have E1 := he.trans e1
  have nR := he.none n1
  refine sta hB (E1 _ _ hs) (E1 _ _ hdx) rfl fun σ2 x2 y2 => ?_
  have F2 := F1.butd (E1 _ _ hdx) x2 y2
  have E2 : Ag dx σ σ2 := fun x o hx ho => x2 x o hx (E1 x o ho)
  have sx : s ≠ dx := fun q => by rw [q, hdx] at hs; cases hs
  have rx : aR ≠ dx := fun q => by rw [q, he _ _ hdx] at n1; cases n1
  have yR := x2 _ _ rx y1
  refine CC.up (n := n + 2) (Wy G F2.live ht fun vt σ3 e3 i3 => ?_) (ln 0x222b0a2b0a00 [n])
  have F3 := F2.ext e3
  have d3 := e3 _ _ y2
  refine sta hB (e3 _ _ (E2 _ _ sx hs)) d3 rfl fun σ4 x4 y4 => ?_
  have F4 := F3.butd d3 x4 y4
  have i4 := i3.butd d3 x4
  refine CC.up (n := n + 2) (Wy G F4.live hb fun vb σ5 e5 i5 => ?_) (ln 0x222b0a2b0a00 [n])
  have F5 := F4.ext e5
  have d5 := e5 _ _ y4
  have s5 := e5 _ _ (x4 _ _ sx (e3 _ _ (E2 _ _ sx hs)))
  refine sta hB s5 d5 rfl fun σ6 x6 y6 => ?_
  have F6 := F5.butd d5 x6 y6
  have i6 := i5.butd d5 x6
  have t6 := (i4.ext e5).butd d5 x6
  have s6 := x6 _ _ sx s5
  have R6 := x6 _ _ rx (e5 _ _ (x4 _ _ rx (e3 _ _ yR)))
  have E6 : Ag dx σ σ6 := fun x o hx ho => x6 x o hx (e5 _ _ (x4 x o hx (e3 _ _ (E2 x o hx ho))))
  clear F0 F1 F2 F3 F4 F5 e1 y1 x2 E1 y2 E2 yR e3 i3 d3 x4 y4 i4 e5 i5 d5 s5 x6
  refine sta hB s6 y6 rfl fun σ7 x7 y7 => ?_
  have F7 := F6.butd y6 x7 y7
  refine sta hB (x7 _ _ sx s6) y7 rfl fun σ8 x8 y8 => ?_
  have F8 := F7.butd y7 x8 y8
  refine sta hB (x8 _ _ sx (x7 _ _ sx s6)) y8 rfl fun σ9 x9 y9 => ?_
  have F9 := F8.butd y8 x9 y9
  have i9 := ((i6.butd y6 x7).butd y7 x8).butd y8 x9
  have t9 := ((t6.butd y6 x7).butd y7 x8).butd y8 x9
  have s9 := x9 _ _ sx (x8 _ _ sx (x7 _ _ sx s6))
  have R9 := x9 _ _ rx (x8 _ _ rx (x7 _ _ rx R6))
  have E9 : Ag dx σ σ9 := fun x o hx ho => x9 x o hx (x8 x o hx (x7 x o hx (E6 x o hx ho)))
  conv => whnf
  intro l1 σ10 b10 n10 e10 y10
  intro t1 σ11 b11 n11 e11 y11
  intro aS σ12 b12 n12 e12 y12
  have F11 := (F9.ext e10).ext e11
  have F12 := F11.more n12 e12 y12
  have E10 := (e10.trans e11).trans e12
  have i12 := ((((i9.ext e10).ext e11).more n12).ext e12)
  have t12 := ((((t9.ext e10).ext e11).more n12).ext e12)
  have one : IsS (fun m => (M m ∨ m = aR) ∨ m = aS) σ12 (.ref t1) 1 := by
   have : IsS (fun m => M m ∨ m = aR) σ11 (.ref t1) 1 := Br t1 l1 rfl y11 (Ay ([1]) (e11 _ _ y10) ⟨Lo.one (by decide) (by decide), .inr (by decide)⟩ (by decide)) (F9.live.not n10)
   exact (this.more n12).ext e12
  have d12 := E10 _ _ y9
  have s12 := E10 _ _ s9
  have R12 := E10 _ _ R9
  have Sx : aS ≠ dx := fun q => by rw [q, e11 _ _ (e10 _ _ y9)] at n12; cases n12
  have SR : aR ≠ aS := fun q => by rw [← q, e11 _ _ (e10 _ _ R9)] at n12; cases n12
  refine sta hB s12 d12 rfl fun σ13 x13 y13 => ?_
  have F13 := F12.butd d12 x13 y13
  have i13 := i12.butd d12 x13
  have t13 := t12.butd d12 x13
  have o13 := one.butd d12 x13
  have s13 := x13 _ _ sx s12
  have R13 := x13 _ _ rx R12
  have S13 := x13 _ _ Sx y12
  have E13 : Ag dx σ σ13 := fun x o hx ho => x13 x o hx (E10 _ _ (E9 x o hx ho))
  conv => whnf
  intro aP σ14 b14 n14 e14 y14
  have F14 := F13.more n14 e14 y14
  have Px : aP ≠ dx := fun q => by rw [q, y13] at n14; cases n14
  have PR : aR ≠ aP := fun q => by rw [← q, R13] at n14; cases n14
  have PS : aS ≠ aP := fun q => by rw [← q, S13] at n14; cases n14
  have d14 := e14 _ _ y13
  refine sta hB (e14 _ _ s13) d14 rfl fun σ15 x15 y15 => ?_
  have F15 := F14.butd d14 x15 y15
  have E15 : Ag dx σ σ15 := fun x o hx ho => x15 x o hx (e14 _ _ (E13 x o hx ho))
  have nS : σ aS = none := by
   cases q : σ aS with
   | none => rfl
   | some o => have := e11 _ _ (e10 _ _ (E9 _ _ Sx q)); rw [this] at n12; cases n12
  have nP : σ aP = none := by
   cases q : σ aP with
   | none => rfl
   | some o => have := E13 _ _ Px q; rw [this] at n14; cases n14
  refine hQ (fun m => ((M m ∨ m = aR) ∨ m = aS) ∨ m = aP) ⟨dx, aR, aS, aP, .ref vt, .ref vb, rs, []⟩ σ15 (fun m hm => .inl (.inl (.inl hm))) (fun m hm => ?_) E15 ?_
  ·rcases hm with ((hm | hm) | hm) | hm
   ·exact .inl hm
   ·right; rw [hm]; exact nR
   ·right; rw [hm]; exact nS
   ·right; rw [hm]; exact nP
  ·refine { inst := x15 _ _ sx (e14 _ _ s13), dict := by rw [y15]; rfl, rows := x15 _ _ rx (e14 _ _ R13), rowsL := F15.rows, sizes := iEA ([.ref t1]) (x15 _ _ Sx (e14 _ _ S13)) ?_, parts := x15 _ _ Px y14, partsL := ⟨rfl, fun i a l h1 => by simp at h1⟩, top := (((t13.more n14).ext e14).butd d14 x15), bot := (((i13.more n14).ext e14).butd d14 x15), nought := F15.nought, live := F15.live, mu := ⟨.inl (.inl (.inr rfl)), .inl (.inr rfl), .inr rfl, fun p hp => nomatch hp⟩, nd := ?_, rsM := F15.rsM, bs := ⟨b1, b12, b14, fun p hp => nomatch hp⟩ }
   ·exact Bh.nil.snoc (((o13.more n14).ext e14).butd d14 x15)
   ·simp only [List.nodup_cons, List.mem_cons, List.not_mem_nil, not_or, not_false_eq_true, List.nodup_nil, and_true]
    exact ⟨⟨SR, PR⟩, PS⟩
include G in
theorem T8 {M : Addr → Prop} {a : Addr} {as : List Addr} {ls : List (List Int)} {tp bt : Int} {σ : Aa} {Q : V → Aa → Prop} (ha : σ a = some (.list (as.map .ref))) (hl : Dn M σ as ls) (hn : IsS M σ (.ref 214) 0) (hlive : C6 M σ) (hlen : ls.length ≤ 1000) (ht : Bnd ML tp) (hb : Bnd ML bt)
  (hQ : ∀ M' A s σ', (∀ m, M m → M' m) → (∀ m, M' m → M m ∨ σ m = none) → Ext σ σ' → Ae h0 M' σ' s A ⟨ls, [1], [], tp, bt⟩ → Q (.ref s) σ') :
  CC prog w h0 (n + 4) (.ref 304) [.ref a, .int tp, .int bt, .int 8, .ref 315, .ref 357] σ Q := by
 rw [H2]
 refine Zm G (Y9 _) (Za _) (bN _) (Zb _) fun s dx σ1 bs bd n1 n2 hne e1 y1 y2 => ?_
 rw [← H2]
 refine bZ G y1 y2 bd (e1 _ _ ha) (hl.ext e1) (hn.ext e1) (hlive.ext e1) hlen ht hb fun M' A σ2 s1 f1 x1 L1 => ⟨rfl, hQ M' A s σ2 s1 (fun m hm => ?_) (fun x o e => x1 x o (fun q => by rw [q, n2] at e; cases e) (e1 _ _ e)) L1⟩
 rcases f1 m hm with q | q
 ·exact .inl q
 ·exact .inr (e1.none q)
end
noncomputable def Wp (f : Nat) : Nat → List Int := f.rec (fun _ => []) fun _ r n => bif Nat.beq n 0 then [] else ((n % 256 : Nat) : Int) :: r (n / 256)
noncomputable def D9 (n : Nat) : List Int := Wp n n
theorem Er : D9 0 = [] := rfl
theorem Wo (f : Nat) : ∀ g n, n ≤ f → n ≤ g → Wp f n = Wp g n := by
 induction f with
 | zero => intro g n h _; cases Nat.le_zero.mp h; cases g <;> rfl
 | succ f ih =>
  intro g n h h'
  cases n with
  | zero => cases g <;> rfl
  | succ n =>
   cases g with
   | zero => exact absurd h' (Nat.not_succ_le_zero n)
   | succ g =>
    have e : (n + 1) / 256 ≤ n := Nat.lt_succ_iff.mp (Nat.div_lt_self (Nat.succ_pos n) (by decide))
    exact congrArg _ (ih g _ (Nat.le_trans e (Nat.le_of_succ_le_succ h)) (Nat.le_trans e (Nat.le_of_succ_le_succ h')))
theorem Es {n : Nat} (h : 0 < n) : D9 n = ((n % 256 : Nat) : Int) :: D9 (n / 256) := by
 cases n with
 | zero => cases h
 | succ n => exact congrArg _ (Wo n _ _ (Nat.lt_succ_iff.mp (Nat.div_lt_self (Nat.succ_pos n) (by decide))) (Nat.le_refl _))
theorem Zj (n : Nat) : Lo (D9 n) := by
 induction n using Nat.strongRecOn with
 | _ n ih =>
  rcases Nat.eq_zero_or_pos n with q | q
  ·subst q; rw [Er]; exact Lo.nil
  ·rw [Es q]
   intro d hd
   rcases List.mem_cons.mp hd with e | hd
   ·subst e; exact ⟨ln 0x220e0b60 [n % 256], ln 0x2221003fb0e71003fb011 [n % 256] (Nat.mod_lt (y := 256) n (by decide))⟩
   ·exact ih (n / 256) (ln 0x221fe3f2003f1011201003f8a210b12 [n / 256, n, n % 256] q (Nat.div_add_mod n 256)) d hd
theorem Hp (n : Nat) : val (D9 n) = n := by
 induction n using Nat.strongRecOn with
 | _ n ih =>
  rcases Nat.eq_zero_or_pos n with q | q
  ·subst q; rw [Er]; rfl
  ·rw [Es q, val, ih (n / 256) (ln 0x221fe3f2003f1011201003f8a210b12 [n / 256, n, n % 256] q (Nat.div_add_mod n 256))]
   exact ln 0x12222e1e1003f80ea82011003f8a21 [n % 256, n / 256, n] (Nat.div_add_mod n 256)
theorem Kn (n : Nat) : Nrm (D9 n) := by
 refine Nrm.of_ge (Zj n) fun _ => ?_
 rw [Hp]
 induction n using Nat.strongRecOn with
 | _ n ih =>
  rcases Nat.eq_zero_or_pos n with q | q
  ·subst q; rw [Er] at *; contradiction
  ·rw [Es q, List.length_cons, Nat.add_sub_cancel]
   rcases Nat.eq_zero_or_pos (n / 256) with z | z
   ·rw [z, Er]; simp; exact ln 0x2220e1b600b11 [n] q
   ·have := ih (n / 256) (ln 0x221fe3f21011201003f8a200b12 [n / 256, n, n % 256] z (Nat.div_add_mod n 256)) (by rw [Es z]; simp)
    have hl : 0 < (D9 (n / 256)).length := by rw [Es z]; simp
    have e : (256 : Int) ^ (D9 (n / 256)).length = 256 ^ ((D9 (n / 256)).length - 1) * 256 := by rw [← Cs]; congr 1; exact ln 0x22121b1a0201b1a21 [(D9 (n / 256)).length, (D9 (n / 256)).length - 1] (lsc ((D9 (n / 256)).length) 1 (ln 0x22201b000b11 [(D9 (n / 256)).length] hl))
    rw [e]; exact lq 0x222003f20e01003f960211003f8a21e062 [n, n / 256, n % 256] [256 ^ ((D9 (n / 256)).length - 1)] this (Nat.div_add_mod n 256)
theorem Df {l : List V} {k : Nat} {it : List V} (h : (l.map fun v => [v])[k]? = some it) : ∃ v, l[k]? = some v ∧ it = [v] := by
 rw [List.getElem?_map] at h
 (refine zEA (Option.map_eq_some_iff.mp h) fun v h1 zq0 => ?_; subst zq0)
 exact iEA v h1 rfl
theorem Ws {l : List V} (h : l ≠ []) : cut l none (some (-1)) = l.take (l.length - 1) := by
 have hp : 0 < l.length := List.length_pos_iff.mpr h
 have e1 : Eh (some (-1)) l.length = l.length - 1 := by
  unfold Eh; dsimp only; rw [if_pos (by decide)]; rfl
 rw [cut, e1]
 simp [Fk]
section
variable {h0 : Heap} {prog : Program} {w : World} {mg mb : Str → Option Value} (G : Gd (KK w) h0 mg mb) {n : Nat}
include G in
theorem Go {h l : Addr} {c m : Int} {ds : List Int} {σ : Aa} {Q : V → Aa → Prop} (hB : Bs h0 h) (hh : σ h = some (.list [.int c, .ref l])) (hl : σ l = some (iL ds)) (hlh : l ≠ h) (c0 : 0 ≤ c) (hm : 0 < m)
  (hQ : ∀ v σ', 0 ≤ v → v < m → Ag h σ σ' → σ' h = some (.list [.int (c + 1), .ref l]) → Q (.int v) σ') : CC prog w h0 (n + 1) (.ref 364) [.ref h, .int m] σ Q := by
 refine enter G [some (.ref h), some (.int m)] (Nw _) rfl rfl ?_
 refine ixL hh 0 _ rfl rfl ?_
 refine stL hB hh 0 rfl (by simp) fun σ1 x1 y1 => ?_
 have y1 : σ1 h = some (.list [.int (c + 1), .ref l]) := y1
 have l1 := x1 _ _ hlh hl
 refine ixL y1 0 _ rfl rfl ?_
 refine ixL y1 1 _ rfl rfl ?_
 refine iEA _ l1 ?_
 conv => whnf
 simp only [List.length_map]
 refine ⟨fun e => ?_, fun e => ?_⟩
 ·have e := of_decide_eq_true e
  refine ixL y1 1 _ rfl rfl ?_
  refine ixL y1 0 _ rfl rfl ?_
  refine ix l1 c.toNat (lq 0x22120e1b1b0ac800e81 [c.toNat] [c] (ltn c (lz 0x22200b600b61 [c] c0))) (lq 0x222210100e81e1b0a62 [c.toNat, ds.length] [c] e (ltn c (lz 0x22200b600b61 [c] c0))) ?_
  refine And.intro (o4 hm) (?_)
  rw [Ct (o32 hm)]
  exact hQ _ σ1 (Int.emod_nonneg _ (o4 hm)) (Int.emod_lt_of_pos _ hm) x1 y1
 ·skip
  refine ixL y1 0 _ rfl rfl ?_
  refine And.intro (B4 (by decide) (by decide)) (?_)
  refine ixL y1 0 _ rfl rfl ?_
  refine And.intro (⟨by decide, by decide⟩) (?_)
  refine And.intro (o4 hm) (?_)
  rw [Ct (o32 hm)]
  exact hQ _ σ1 (Int.emod_nonneg _ (o4 hm)) (Int.emod_lt_of_pos _ hm) x1 y1
include G in
theorem Nh {M : Addr → Prop} {x : Int} {σ : Aa} {Q : V → Aa → Prop} (hL : C6 M σ) (hx : Bnd ML x)
  (hQ : ∀ t r σ', Ext σ σ' → σ' t = some (.tup [.bool (decide (x < 0)), .ref r]) → σ' r = some (iL (D9 x.natAbs)) → IsS M σ' (.ref t) x → Q (.ref t) σ') : CC prog w h0 (n + 1) (.ref 371) [.int x] σ Q := by
 have hML := Ch
 have hlen : (D9 x.natAbs).length ≤ ML := (Kn _).len_le (by rw [Hp]; exact hx)
 refine enter G [some (.int x), none, none] (Lz _) rfl rfl ?_
 conv => whnf
 intro f τ f1 f2 f3 f4
 conv => whnf
 refine Ba (fun m ρ υ => ∃ L, ρ = [some (.int x), some (.ref f), some (.int (m : Nat))] ∧ Ext σ υ ∧ υ f = some (iL L) ∧ L ++ D9 m = D9 x.natAbs) (fun ρ υ => ρ = [some (.int x), some (.ref f), some (.int 0)] ∧ Ext σ υ ∧ υ f = some (iL (D9 x.natAbs))) (Br x.natAbs ([]) rfl f3 f4 rfl) ?_ ?_
 ·rintro m _ υ ⟨L, rfl, he, hL', hd⟩
  refine And.intro (fun e => ?_) (fun e => ?_)
  ·have e := of_decide_eq_true e
   have hm : 0 < m := by exact o97 e
   rw [Es hm] at hd
   have hl2 : L.length < ML := by
    have := congrArg List.length hd
    rw [List.length_append, List.length_cons] at this
    exact ln 0x222210121b3a0a21202 [L.length, ML, (D9 x.natAbs).length, (D9 (m / 256)).length] hlen this
   refine And.intro (⟨_, hL'⟩) (?_)
   refine And.intro (by decide) (?_)
   refine apx f1 hL' (by rw [List.length_map]; exact ln 0x222210000007fb011017ffff86fb122 [L.length, ML] hML hl2) fun υ' x1 y1 => ?_
   rw [Ck, Ct (by decide), show (m : Int) % 256 = ((m % 256 : Nat) : Int) by rfl] at y1
   refine And.intro (rfl) (?_)
   refine And.intro (⟨by decide, by decide⟩) (?_)
   rw [Cn (by decide), show (m : Int) / 256 = ((m / 256 : Nat) : Int) by rfl]
   exact iEA (m / 256) (ln 0x221fe3f2003f1011201003f8a21e0b72 [m / 256, m, m % 256] e (Nat.div_add_mod m 256)) (Ar _ rfl (he.but x1 f2) y1 (by rw [List.append_assoc]; exact hd))
  ·have e := of_decide_eq_false e
   have hm : m = 0 := by exact o77 e
   subst hm
   rw [Er, List.append_nil] at hd
   subst hd
   exact ⟨rfl, he, hL'⟩
 ·(refine fun _ υ => yAA fun zq0 he hL' => ?_; subst zq0)
  conv => whnf
  intro t σ' t1 t2 t3 t4
  refine hQ t f σ' (he.trans t3) t4 (t3 _ _ hL') (Br t f rfl t4 (Ay _ (t3 _ _ hL') (Kn _) (Hp _)) (hL.not f2))
theorem Rq : ∀ (l : List Int) (k : Nat), ((l.mapIdx fun i d => d * 256 ^ (k + i)).sum : Int) = 256 ^ k * val l
 | [], k => by simp [val]
 | d :: r, k => by
  rw [List.mapIdx_cons, List.sum_cons, val]
  have := Rq r (k + 1)
  rw [show (fun i d => d * (256 : Int) ^ (k + (i + 1))) = (fun i d => d * (256 : Int) ^ (k + 1 + i)) from funext fun i => by rw [show k + (i + 1) = k + 1 + i by (exact o92)], this, Cs]
  grind
include G in
theorem Jv {M : Addr → Prop} {v : V} {z : Int} {σ : Aa} {Q : V → Aa → Prop} (hv : IsS M σ v z) (hb : Bnd (4 * KB) z) (hQ : ∀ σ', Ext σ σ' → Q (.int z) σ') : CC prog w h0 (n + 1) (.ref 376) [v] σ Q := by
 have hKB := Gb
 (refine Be hv fun t a zq0 ht zq1 _ => ?_; subst zq0; refine A6 zq1 fun l hl nl vl => ?_)
 have ll : l.length ≤ 4 * KB := nl.len_le (by rw [vl]; exact hb)
 refine enter G [some (.ref t), none] (Nx _) rfl rfl ?_
 refine ixT ht 1 _ rfl rfl ?_
 refine iEA _ hl ?_
 refine ⟨by rw [D8, List.length_map]; show _ ≤ 16777216; exact ln 0x228210000007fb0014800400005fb122 [l.length, KB] hKB ll, Ar (fun acc υ => Ext σ υ ∧ acc.length ≤ l.length ∧ acc = ((l.mapIdx fun i d => d * (256 : Int) ^ (0 + i)).take acc.length).map .int) ⟨.refl, Nat.zero_le _, rfl⟩ ?_ ?_ ?_⟩
 ·refine fun acc υ => yA fun he _ => ?_
  exact he _ _ hl
 ·refine fun acc υ it => yAA fun he hle ha hit => ?_
  (refine zA (Eo hit) fun hlt zq0 => ?_; subst zq0)
  have b1 := B7 nl.1 acc.length
  refine And.intro (⟨o39, ?_⟩) (?_)
  ·have : bitsI 256 ≤ 9 := Nj (by decide)
   have h2 : (bitsI 256 : Int) * acc.length ≤ 9 * acc.length := Int.mul_le_mul_of_nonneg_right (ln 0x2229b0e69b001 [bitsI 256] this) (o39)
   show (bitsI 256 : Int) * acc.length ≤ 67108864
   exact lq 0x22122f122f482f240000007fb062e980612104810400005fb024 [KB, l.length, acc.length] [(↑(bitsI 256) : Int) * (↑acc.length : Int)] hKB ll hlt h2
  refine And.intro (B4 (by lia) (by lia)) (?_)
  refine ⟨he, by rw [List.length_append, List.length_singleton]; assumption, ?_⟩
  rw [Int.toNat_natCast, List.length_append, List.length_singleton, List.take_succ_eq_append_getElem (by rw [List.length_mapIdx]; exact hlt), List.map_append, ← ha, List.getElem_mapIdx, Dk]
  simp
 ·refine fun acc υ => yAA fun he hle ha hlen => ?_
  rw [D8, List.length_map] at hlen
  intro s σ1 s1 s2 s3 s4
  rw [ha, hlen, List.take_of_length_le (by rw [List.length_mapIdx]; exact Nat.le_refl _)] at s4
  refine iEA _ s4 ?_
  rw [Rq, Int.pow_zero, Int.one_mul, vl]
  refine ixT (s3 _ _ (he _ _ ht)) 0 _ rfl rfl ?_
  refine And.intro (fun e => ?_) (fun e => ?_)
  ·have e := of_decide_eq_true e
   conv => whnf
   rw [show (0 : Int) - (z.natAbs : Int) = z by (exact lq 0x221200e0bc80d0e81 [z.natAbs] [z] (lnq z (lz 0x2220b060b071 [z] e)))]
   exact hQ σ1 (he.trans s3)
  ·have e := of_decide_eq_false e
   conv => whnf
   rw [show (z.natAbs : Int) = z by (exact o5 e)]
   exact hQ σ1 (he.trans s3)
include G in
theorem Hs {M : Addr → Prop} {s : Addr} {A : LA} {L : LC} {σ : Aa} {Q : V → Aa → Prop} (h : Ae h0 M σ s A L) (hb : K8 L) (hl : L.sizes.length ≤ 1000) (hQ : ∀ r σ', Bs h0 r → σ r = none → Ext σ σ' → σ' r = some (iL L.sizes) → Q (.ref r) σ') :
  CC prog w h0 (n + 2) (.ref 391) [.ref s] σ Q := by
 refine zEA h.sizes fun ss hss hS => ?_
 refine enter G [some (.ref s)] (Nv _) rfl rfl ?_
 refine h.aSx ?_
 refine iEA _ hss ?_
 refine ⟨by rw [List.length_map, hS.1]; show _ ≤ 16777216; exact o62 hl, Ar (fun acc υ => Ext σ υ ∧ acc.length ≤ L.sizes.length ∧ acc = (L.sizes.take acc.length).map .int) ⟨.refl, Nat.zero_le _, rfl⟩ ?_ ?_ ?_⟩
 ·refine fun acc υ => yA fun he _ => ?_
  exact he _ _ hss
 ·refine fun acc υ it => yAA fun he hle ha hit => ?_
  (refine zEA (Df hit) fun v hv zq0 => ?_; subst zq0)
  have hlt : acc.length < L.sizes.length := by
   rw [← hS.1]
   rcases Nat.lt_or_ge acc.length ss.length with q | q
   ·exact q
   ·rw [List.getElem?_eq_none q] at hv; cases hv
  refine Jv G ((hS.2 _ _ _ hv (Bg hlt)).ext he) ((hb.sizes _).mono (ln 0x22048000 [KB])) fun υ' e => ?_
  refine ⟨he.trans e, by rw [List.length_append, List.length_singleton]; assumption, ?_⟩
  rw [List.length_append, List.length_singleton, List.take_succ_eq_append_getElem hlt, List.map_append, ← ha, Dk]
  rfl
 ·refine fun acc υ => yAA fun he hle ha hlen => ?_
  rw [List.length_map, hS.1] at hlen
  intro r σ' r1 r2 r3 r4
  rw [ha, hlen, List.take_of_length_le (Nat.le_refl _)] at r4
  exact hQ r σ' r1 (he.none r2) (he.trans r3) r4
noncomputable def Kb (l : List Int) : Int := l.foldl (· * ·) 1
include G in
theorem T4 {a : Addr} {l : List Int} {σ : Aa} {Q : V → Aa → Prop} (ha : σ a = some (iL l)) (hne : l ≠ []) (hf : ∀ k, k < l.length - 1 → Hh (Kb (l.take k)) (gt l k)) (hQ : ∀ σ', Ext σ σ' → Q (.int (Kb (l.take (l.length - 1)))) σ') : CC prog w h0 (n + 1) (.ref 398) [.ref a] σ Q := by
 refine enter G [some (.ref a), none, none] (K1 _) rfl rfl ?_
 refine iEA _ ha ?_
 intro b σ1 b1 b2 b3 b4
 rw [Ws (by simpa using hne), List.length_map, ← List.map_take] at b4
 refine iEA _ b4 ?_
 refine Ar (fun k ρ υ => ∃ u, ρ = [some (.ref a), some (.int (Kb (l.take k))), u] ∧ Ext σ1 υ ∧ k ≤ l.length - 1) (Ay none rfl .refl (Nat.zero_le _)) ?_ ?_ ?_
 ·(refine fun k _ υ => Mm fun u zq0 he _ => ?_; subst zq0)
  exact he _ _ b4
 ·(refine fun k _ υ it => Mm fun u zq0 he hk => ?_; subst zq0; refine fun hit => ?_)
  (refine zEA (Df hit) fun v hv zq0 => ?_; subst zq0)
  have hlt : k < l.length - 1 := by
   rcases Nat.lt_or_ge k (l.length - 1) with q | q
   ·exact q
   ·rw [List.getElem?_eq_none (by simp; lia)] at hv; cases hv
  rw [List.getElem?_map, List.getElem?_take, if_pos hlt, Bg (by exact ln 0x22221011202012 [k, l.length, l.length - 1] hlt (Nat.sub_le l.length 1))] at hv
  cases hv
  refine And.intro (hf k hlt) (?_)
  refine Ay (some (.int (gt l k))) ?_ he hlt
  ·rw [List.take_succ_eq_append_getElem (by omega), Dk]
   have e : Kb (l.take k ++ [gt l k]) = Kb (l.take k) * gt l k := by
    unfold Kb; rw [List.foldl_append]; rfl
   rw [e]
   rfl
 ·(refine fun _ υ => Mm fun u zq0 he hk => ?_; subst zq0)
  conv => whnf
  rw [List.length_map, List.length_map, List.length_take, Nat.min_eq_left (by exact ln 0x2221001001 [l.length - 1, l.length] (Nat.sub_le l.length 1))]
  exact hQ υ (b3.trans he)
end
noncomputable def Ft (rows : List (List Int)) (c : Nat) : List (List Int) := (rows.drop 1).map fun r => r.take c ++ r.drop (c + 1)
noncomputable def Pj (f : Nat → Int) : Nat → Int
 | 0 => 0
 | k + 1 => Pj f k + f k
noncomputable def Fg : Nat → List (List Int) → Int
 | 0, rows => gt (gl rows 0) 0
 | m + 1, rows => Pj (fun c => (if (c : Int) % 2 = 0 then gt (gl rows 0) c else 0 - gt (gl rows 0) c) * Fg m (Ft rows c)) (m + 2)
noncomputable def IsM (σ : Aa) (a : Addr) (rows : List (List Int)) : Prop := ∃ as : List Addr, σ a = some (.list (as.map .ref)) ∧ as.length = rows.length ∧ ∀ i, i < rows.length → σ (ga as i) = some (iL (gl rows i))
theorem IsM.ext {σ σ' : Aa} {a : Addr} {rows : List (List Int)} (h : IsM σ a rows) (e : Ext σ σ') : IsM σ' a rows := by
 refine A6 h fun as h1 h2 h3 => ?_; exact Ay as (e _ _ h1) h2 (fun i hi => e _ _ (h3 i hi))
theorem Gh (rows : List (List Int)) (c : Nat) : (Ft rows c).length = rows.length - 1 := by unfold Ft; simp
theorem Kl {rows : List (List Int)} {c i : Nat} (h : i + 1 < rows.length) : gl (Ft rows c) i = (gl rows (i + 1)).take c ++ (gl rows (i + 1)).drop (c + 1) := by
 unfold Ft
 have : ((rows.drop 1).map fun r => r.take c ++ r.drop (c + 1))[i]? = some ((gl rows (i + 1)).take c ++ (gl rows (i + 1)).drop (c + 1)) := by
  rw [List.getElem?_map, List.getElem?_drop, Nat.add_comm 1 i, Fd h]; rfl
 unfold gl at this ⊢
 rw [List.getD_eq_getElem?_getD, this]; rfl
noncomputable def bdW (k : Nat) : Nat → Nat
 | 0 => k
 | m + 1 => k + bdW k m + (m + 2)
theorem Hu {k : Nat} {x : Int} (h : Bnd k x) : bitsI x ≤ 8 * k := by
 refine Nj ?_
 unfold Bnd at h
 have e : (256 : Int) ^ k = ((2 ^ (8 * k) : Nat) : Int) := by
  rw [Nat.pow_mul, Int.natCast_pow]; rfl
 rw [e] at h
 exact Int.ofNat_lt.mp h
theorem Bnd.sgn {k : Nat} {x : Int} {c : Prop} [Decidable c] (h : Bnd k x) : Bnd k (if c then x else 0 - x) := by
 split
 ·exact h
 ·rw [Int.zero_sub]; exact h.neg
theorem N8 {f : Nat → Int} {k : Nat} : ∀ j, (∀ i, i < j → Bnd k (f i)) → Bnd (k + j) (Pj f j)
 | 0, _ => by simp [Pj, Bnd]; exact Aw _
 | j + 1, h => Bnd.add (N8 j fun i hi => h i (o73 hi)) ((h j (o53)).mono (Nat.le_add_right k j))
theorem bS {l : List (List Int)} {j : Nat} (h : l.length ≤ j) : gl l j = [] := by
 unfold gl; rw [List.getD_eq_getElem?_getD, List.getElem?_eq_none h]; rfl
theorem Bnd.zero {k : Nat} : Bnd k 0 := by simp [Bnd]; exact Aw _
theorem Zd {l : List Int} {c j k : Nat} (h : ∀ i, Bnd k (gt l i)) : Bnd k (gt (l.take c ++ l.drop (c + 1)) j) := by
 rcases Nat.lt_or_ge j (l.take c).length with q | q
 ·rw [Fv q, Sd (by rw [List.length_take] at q; exact ln 0x22221011202012 [j, c, min c l.length] q (Nat.min_le_left c l.length))]; exact h _
 ·rw [Cu q, Ze]; exact h _
theorem Ih {rows : List (List Int)} {k c : Nat} (h : ∀ i j, Bnd k (gt (gl rows i) j)) : ∀ i j, Bnd k (gt (gl (Ft rows c) i) j) := fun i j => by
 rcases Nat.lt_or_ge (i + 1) rows.length with q | q
 ·rw [Kl q]; exact Zd (h _)
 ·rw [bS (by rw [Gh]; omega)]; exact Bnd.zero
theorem Oz {k : Nat} : ∀ m rows, (∀ i j, Bnd k (gt (gl rows i) j)) → Bnd (bdW k m) (Fg m rows)
 | 0, rows, h => h 0 0
 | m + 1, rows, h => N8 (m + 2) fun i _ => Bnd.mul (h 0 i).sgn (Oz m _ (Ih h))
theorem Hr {l : List V} {e : Nat} {j : Int} (hj : j = (e : Int)) : cut l (some j) none = l.drop e := by
 subst hj
 have e1 : Fk (some (e : Int)) l.length = min e l.length := by
  unfold Fk; dsimp only; rw [if_neg (o34), Int.toNat_natCast]
 rw [cut, e1]
 simp only [Eh]
 rcases Nat.le_total e l.length with q | q
 ·rw [Nat.min_eq_left q]; exact List.take_of_length_le (by simp)
 ·rw [Nat.min_eq_right q, List.drop_of_length_le q, List.drop_length]; simp
theorem Js {l : List V} {e : Nat} {j : Int} (hj : j = (e : Int)) : cut l none (some j) = l.take e := by
 subst hj
 have e1 : Eh (some (e : Int)) l.length = min e l.length := by
  unfold Eh; dsimp only; rw [if_neg (o34), Int.toNat_natCast]
 rw [cut, e1]
 simp only [Fk, Nat.sub_zero, List.drop_zero]
 rcases Nat.le_total e l.length with q | q
 ·rw [Nat.min_eq_left q]
 ·rw [Nat.min_eq_right q, List.take_of_length_le q, List.take_length]
section
variable {h0 : Heap} {prog : Program} {w : World} {mg mb : Str → Option Value} (G : Gd (KK w) h0 mg mb) {n : Nat}
include G in
theorem Jt {k : Nat} : ∀ (m : Nat) {a : Addr} {rows : List (List Int)} {σ : Aa} {Q : V → Aa → Prop}, IsM σ a rows → rows.length = m + 1 → (∀ i, i < m + 1 → (gl rows i).length = m + 1) → (∀ i j, Bnd k (gt (gl rows i) j)) → 8 * (k + bdW k m) ≤ 2 ^ 26 → m ≤ 1000 →
  (∀ σ', Ext σ σ' → Q (.int (Fg m rows)) σ') → CC prog w h0 (n + m + 1) (.ref 381) [.ref a] σ Q
 | 0, a, rows, σ, Q, hM, hr, hl, hb, hk, _, hQ => by
  refine A6 hM fun as h1 h2 h3 => ?_
  have l0 := hl 0 (lz 0x221b0ba0b10 [])
  refine enter G [some (.ref a), none, none, none, none] (Hw _) rfl rfl ?_
  refine iEA _ h1 ?_
  conv => whnf
  simp only [List.length_map]
  refine ⟨fun _ => ?_, fun e => absurd (of_decide_eq_false e) (by lia)⟩
  refine ixR h1 0 rfl (ln 0x211200b11021b0ba122 [as.length, rows.length] hr h2) ?_
  refine ix (h3 0 (ln 0x21200b11b0ba021 [rows.length] hr)) 0 rfl (ln 0x21200b11b0ba021 [(gl rows 0).length] l0) ?_
  exact hQ σ .refl
 | m + 1, a, rows, σ, Q, hM, hr, hl, hb, hk, hm9, hQ => by
  refine A6 hM fun as h1 h2 h3 => ?_
  have l0 := hl 0 (ln 0x221b1b0aa0b10 [m])
  have hk' : 8 * (k + bdW k m) ≤ 2 ^ 26 := by
   have : bdW k (m + 1) = k + bdW k m + (m + 2) := rfl
   lia
  refine enter G [some (.ref a), none, none, none, none] (Hw _) rfl rfl ?_
  refine iEA _ h1 ?_
  conv => whnf
  simp only [List.length_map]
  refine ⟨fun e => absurd (of_decide_eq_true e) (ln 0x21121b0eb1021b1b2aa122 [as.length, rows.length, m] hr h2), fun _ => ?_⟩
  refine ixR h1 0 rfl (ln 0x211200b11021b1b2aa122 [as.length, rows.length, m] hr h2) ?_
  refine iEA _ (h3 0 (ln 0x21200b11b1b1aa021 [rows.length, m] hr)) ?_
  refine Ar (fun c ρ υ => ∃ u2 u3 u4, ρ = [some (.ref a), some (.int (Pj (fun c => (if (c : Int) % 2 = 0 then gt (gl rows 0) c else 0 - gt (gl rows 0) c) * Fg m (Ft rows c)) c)), u2, u3, u4] ∧ Ext σ υ ∧ c ≤ m + 2) (Wh none none none rfl .refl (Nat.zero_le _)) ?_ ?_ ?_
  ·(refine fun c _ υ => H3 fun u2 u3 u4 zq0 he _ => ?_; subst zq0)
   exact he _ _ (h3 0 (ln 0x21200b11b1b1aa021 [rows.length, m] hr))
  ·(refine fun c _ υ it => H3 fun u2 u3 u4 zq0 he hc => ?_; subst zq0; refine fun hit => ?_)
   (refine zA (Eo hit) fun hcl zq0 => ?_; subst zq0)
   rw [l0] at hcl
   refine iEA _ (he _ _ h1) ?_
   rw [Hr (j := 1) (e := 1) rfl]
   intro z υ1 z1 z2 z3 z4
   rw [← List.map_drop] at z4
   refine iEA _ z4 ?_
   refine ⟨by rw [List.length_map, List.length_map, List.length_drop]; show _ ≤ 16777216; exact ln 0x22222210000007fb0031b0a21323e83fb1b2a01b1b2aa124 [as.length - 1, rows.length, m, as.length] hr hm9 h2 (lsc as.length 1 (ln 0x211201b01021b1b2aa122 [as.length, rows.length, m] hr h2)), Ar (fun acc ω => Ext υ1 ω ∧ acc.length ≤ m + 1 ∧ ∃ rs : List Addr, acc = rs.map .ref ∧ ∀ i, i < rs.length → ω (ga rs i) = some (iL (gl (Ft rows c) i))) ⟨.refl, Nat.zero_le _, iEA ([]) rfl (fun i h => by simp at h)⟩ ?_ ?_ ?_⟩
   ·refine fun acc ω => yA fun hω _ => ?_
    exact hω _ _ z4
   ·(refine fun acc ω it => Z4 fun hω hle rs zq0 hrs => ?_; subst zq0; refine fun hit => ?_)
    (refine zEA (Df hit) fun v hv zq0 => ?_; subst zq0)
    rw [List.length_map] at hv hle
    have hlt : rs.length < m + 1 := by
     rcases Nat.lt_or_ge rs.length (m + 1) with q | q
     ·exact q
     ·rw [List.getElem?_eq_none (by simp; exact ln 0x222221b1a0011b3a02021b1b3aa223 [as.length, rs.length, rows.length, m] hr h2 q)] at hv; cases hv
    rw [List.getElem?_map, List.getElem?_drop, Bz (by exact ln 0x22112101ba11b3a012121b1b3aa223 [rs.length, as.length, rows.length, m] hr h2 hlt)] at hv
    cases hv
    have hrow := hω _ _ (z3 _ _ (he _ _ (h3 (1 + rs.length) (by exact ln 0x2212101ba11b2a011b1b2aa122 [rs.length, rows.length, m] hr hlt))))
    have lrow := hl (1 + rs.length) (by exact ln 0x2221b1b1aa01ba11b1a011 [rs.length, m] hlt)
    refine iEA _ hrow ?_
    rw [Js (j := (c : Int)) (e := c) rfl, ← List.map_take]
    intro p ω1 p1 p2 p3 p4
    refine iEA _ (p3 _ _ hrow) ?_
    rw [Hr (j := (c : Int) + 1) (e := c + 1) (o8), ← List.map_drop]
    intro q ω2 q1 q2 q3 q4
    refine C5 _ _ ⟨q3 _ _ p4, q4, by simp; show _ ≤ 16777216; exact ln 0x22222210000007fb10a031b4a1a24021b1b2aa323e83fb1b2a04 [min c (gl rows (1 + rs.length)).length, (gl rows (1 + rs.length)).length - (c + 1), m, (gl rows (1 + rs.length)).length, c] hm9 lrow (Nat.min_eq_left (ln 0x21221001b1b2aa121b1b2aa012 [c, (gl rows (1 + rs.length)).length, m] hcl lrow)) (lsc ((gl rows (1 + rs.length)).length) (c + 1) (ln 0x212211b0a01b1b2aa121b1b2aa012 [c, (gl rows (1 + rs.length)).length, m] hcl lrow))⟩ ?_
    intro r ω3 r1 r2 r3 r4
    rw [← List.map_append] at r4
    have e3 := (p3.trans q3).trans r3
    refine ⟨hω.trans e3, by rw [List.length_append, List.length_map, List.length_singleton]; assumption, iEA (rs ++ [r]) (by simp) (fun i hi => ?_)⟩
    rw [List.length_append, List.length_singleton] at hi
    rcases Nat.lt_or_ge i rs.length with y | y
    ·have : ga (rs ++ [r]) i = ga rs i := by
      unfold ga; rw [List.getD_eq_getElem?_getD, List.getD_eq_getElem?_getD, List.getElem?_append_left y]
     rw [this]; exact e3 _ _ (hrs i y)
    ·have ei : i = rs.length := by exact o28 hi y
     subst ei
     have : ga (rs ++ [r]) rs.length = r := by
      unfold ga; rw [List.getD_eq_getElem?_getD, List.getElem?_append_right (Nat.le_refl _)]; simp
     rw [this, r4, Kl (by exact ln 0x221211b0a11b2a011b1b2aa122 [rs.length, rows.length, m] hr hlt), Nat.add_comm 1 rs.length]
   ·(refine fun acc ω => Z4 fun hω hle rs zq0 hrs => ?_; subst zq0; refine fun hlen => ?_)
    rw [List.length_map, List.length_map, List.length_map, List.length_drop] at hlen
    intro t ω1 t1 t2 t3 t4
    have eω := ((he.trans z3).trans hω).trans t3
    have hM' : IsM ω1 t (Ft rows c) := Ay rs t4 (by rw [Gh]; exact ln 0x121122122210221b4a231b1a24023224 [rs.length, rows.length - 1, as.length, rows.length, as.length - 1] h2 hlen (lsc rows.length 1 (ln 0x222201b002221b1a22 [rows.length, as.length - 1, as.length] (lsc as.length 1 (ln 0x211201b01021b1b2aa122 [as.length, rows.length, m] hr h2)) h2)) (lsc as.length 1 (ln 0x211201b01021b1b2aa122 [as.length, rows.length, m] hr h2))) (fun i hi => t3 _ _ (hrs i (by rw [Gh] at hi; exact ln 0x221211210131b5a221b4a25014123225 [i, rs.length, as.length, rows.length, as.length - 1, rows.length - 1] h2 hlen hi (lsc as.length 1 (ln 0x212201b020221b1a22 [as.length, rows.length - 1, rows.length] (lsc rows.length 1 (ln 0x21201b01b1b1aa021 [rows.length, m] hr)) h2)) (lsc rows.length 1 (ln 0x21201b01b1b1aa021 [rows.length, m] hr)))))
    refine And.intro (by decide) (?_)
    conv => whnf
    refine Hj (P := (fun v τ => ω1 = τ ∧ v = .int (if (c : Int) % 2 = 0 then gt (gl rows 0) c else 0 - gt (gl rows 0) c))) (F := fun N => (decide _ = true → wpE _ _ _ _ _ N) ∧ (decide _ = false → wpE _ _ _ _ _ N)) ?_ ?_
    ·intro N hN
     rw [Ct (by decide)]
     refine ⟨fun e => ?_, fun e => ?_⟩
     ·have e := of_decide_eq_true e
      exact hN _ _ ⟨rfl, by rw [if_pos e]⟩
     ·have e := of_decide_eq_false e
      exact hN _ _ ⟨rfl, by rw [if_neg e]⟩
    ·(refine fun _ _ => yA fun zq0 zq1 => ?_; subst zq0; subst zq1)
     refine CC.up (n := n + m + 1) (Jt m hM' (by rw [Gh]; exact ln 0x1122221b1a0221b0a21b1b1aa222 [rows.length - 1, m, rows.length] hr (lsc rows.length 1 (ln 0x21201b01b1b1aa021 [rows.length, m] hr))) (fun i hi => ?_) (Ih hb) hk' (ln 0x2223e83fb003e83fb1b0a01 [m] hm9) fun ω2 e2 => ?_) (ln 0x221b1a0a1b10aa00 [n, m])
     ·rw [Kl (by exact ln 0x221211b0a11b2a011b1b2aa122 [i, rows.length, m] hr hi), List.length_append, List.length_take, List.length_drop, hl (i + 1) (by exact ln 0x2221b1b1aa1b0a11b1a011 [i, m] hi)]; exact ln 0x1122221b2a10a21b1b2aa1b3a1a23022 [min c (m + 1 + 1), m + 1 + 1 - (c + 1), m, c] (Nat.min_eq_left (ln 0x2221b1b1aa001b1b1aa011 [c, m] hcl)) (lsc (m + 1 + 1) (c + 1) (ln 0x2221b1b1aa1b0a01b1b1aa011 [c, m] hcl))
     refine And.intro (.inr (.inr ?_)) (?_)
     ·have a1 := Hu (k := k) (x := if (c : Int) % 2 = 0 then gt (gl rows 0) c else 0 - gt (gl rows 0) c) (hb 0 c).sgn
      have a2 := Hu (Oz m _ (Ih (c := c) hb))
      exact fC hk' a1 a2
     exact Wh _ _ _ rfl (eω.trans e2) ‹_›
  ·(refine fun _ υ => H3 fun u2 u3 u4 zq0 he hc => ?_; subst zq0)
   conv => whnf
   rw [D8, List.length_map, l0]
   exact hQ υ he
end
theorem Sz {as : List Addr} {c : Nat} {r : Addr} (h : c < as.length) : as.take c ++ [r] ++ as.drop (c + 1) = as.set c r := by
 rw [List.set_eq_take_append_cons_drop, if_pos h]; simp
theorem IsM.set {σ : Aa} {a b : Addr} {as : List Addr} {rows : List (List Int)} {c : Nat} {r : Addr} {l : List Int} (h1 : σ b = some (.list ((as.set c r).map .ref))) (h2 : as.length = rows.length) (h3 : ∀ i, i < rows.length → σ (ga as i) = some (iL (gl rows i))) (hr : σ r = some (iL l)) : IsM σ b (rows.set c l) := by
 refine Ay _ h1 (by simp [h2]) (fun i hi => ?_)
 rw [List.length_set] at hi
 by_cases q : c = i
 ·subst q
  rw [Cb hi]
  have : ga (as.set c r) c = r := by unfold ga; rw [List.getD_eq_getElem?_getD, List.getElem?_set_self (by exact o7 h2 hi)]; rfl
  rw [this]; exact hr
 ·rw [Da q, Ij q]; exact h3 i hi
section
variable {h0 : Heap} {prog : Program} {w : World} {mg mb : Str → Option Value} (G : Gd (KK w) h0 mg mb) {n : Nat}
include G in
theorem T6 {k m : Nat} {o a : Addr} {olds news : List (List Int)} {W : Int} {σ : Aa} {Q : V → Aa → Prop} (ho : IsM σ o olds) (ha : IsM σ a news) (lo : olds.length = m + 1) (ln : news.length = m + 1) (lo' : ∀ i, i < m + 1 → (gl olds i).length = m + 1) (ln' : ∀ i, i < m + 1 → (gl news i).length = m + 1)
  (bo : ∀ i j, Bnd k (gt (gl olds i) j)) (bn : ∀ i j, Bnd k (gt (gl news i) j)) (hk : 8 * (k + bdW k m) ≤ 2 ^ 26) (hm : m ≤ 1000) (hW : W ≠ 0) (hd : (Fg m news).natAbs = W.natAbs) (hdv : ∀ i c, i < m + 1 → c < m + 1 → Fg m (news.set c (gl olds i)) % W = 0)
  (hQ : ∀ σ', Ext σ σ' → Q (.bool true) σ') : CC prog w h0 (n + m + 2) (.ref 386) [.ref o, .ref a, .int W] σ Q := by
 refine enter G [some (.ref o), some (.ref a), some (.int W), none] (K2 _) rfl rfl ?_
 refine Jt G m ha ln ln' bn hk hm fun σ1 e1 => ?_
 refine And.intro (fun e => ?_) (fun _ => ?_)
 ·have e := of_decide_eq_true e
  exact absurd (by rw [hd]) e
 refine A6 ho fun os o1 o2 o3 => ?_
 refine A6 ha fun as a1 a2 a3 => ?_
 refine iEA _ (e1 _ _ o1) ?_
 refine Ar (fun i ρ υ => ∃ u, ρ = [some (.ref o), some (.ref a), some (.int W), u] ∧ Ext σ υ) (iEA none rfl e1) ?_ ?_ ?_
 ·(refine fun i _ υ => yEA fun u zq0 he => ?_; subst zq0)
  exact he _ _ o1
 ·(refine fun i _ υ it => yEA fun u zq0 he => ?_; subst zq0; refine fun hit => ?_)
  (refine zEA (Df hit) fun v hv zq0 => ?_; subst zq0)
  have hi : i < m + 1 := by
   rcases Nat.lt_or_ge i (m + 1) with q | q
   ·exact q
   ·rw [List.getElem?_eq_none (by simp; exact lq 0x2222210011b3a02021b3a223 [os.length, i, olds.length, m] [] lo o2 q)] at hv; cases hv
  rw [List.getElem?_map, Bz (by exact lq 0x221121011b3a012121b3a223 [i, os.length, olds.length, m] [] lo o2 hi)] at hv
  cases hv
  have hr := he _ _ (o3 i (by exact lq 0x22121011b2a011b2a122 [i, olds.length, m] [] lo hi))
  refine iEA _ (he _ _ a1) ?_
  conv => whnf
  simp only [List.length_map]
  refine ⟨⟨by lia, by lia⟩, ?_⟩
  refine ⟨by rw [Bp]; show _ ≤ 16777216; exact lq 0x22222210000007fb000b3ec0e81323e83fb201b2a124 [((↑as.length : Int) - 0).toNat, news.length, m, as.length] [] ln hm a2 (ltn ((↑as.length : Int) - 0) (lq 0x220b0ec0b60 [as.length] [])), Ar (fun c acc ω => Ext υ ω ∧ acc = []) ⟨.refl, rfl⟩ (fun c acc ω h => ⟨trivial, by rw [h.2]; exact Nat.zero_le _⟩) ?_ ?_⟩
  ·(refine fun c acc ω it => yA fun hω zq0 => ?_; subst zq0; refine fun hit => ?_)
   (refine zA (Bx hit) fun zq0 hlt => ?_; subst zq0)
   have hc : c < m + 1 := by exact lq 0x222221b1a013e0e0ba72321b1a223 [c, m, news.length, as.length] [] ln a2 hlt
   refine iEA _ (hω _ _ (he _ _ a1)) ?_
   rw [Js (j := 0 + (c : Int)) (e := c) (by exact lq 0x220e0e0ba80 [c] []), ← List.map_take]
   intro p ω1 p1 p2 p3 p4
   conv => whnf
   intro q ω2 q1 q2 q3 q4
   refine C5 _ _ ⟨q3 _ _ p4, q4, by simp; show _ ≤ 16777216; exact lq 0x222222210000007fb1b0a04003e4e0ba71323e83fb201b2a125 [min c as.length, news.length, m, as.length, c] [] ln hm a2 hlt (Nat.min_le_left c as.length)⟩ ?_
   intro r ω3 r1 r2 r3 r4
   have e3 := ((hω.trans p3).trans q3).trans r3
   refine iEA _ (e3 _ _ (he _ _ a1)) ?_
   rw [Hr (j := 0 + (c : Int) + 1) (e := c + 1) (by exact lq 0x221b0ae1b0e0baa80 [c] []), ← List.map_drop]
   intro s ω4 s1 s2 s3 s4
   refine C5 _ _ ⟨s3 _ _ r4, s4, by simp; show _ ≤ 16777216; exact lq 0x222222210000007fb11b0aa041b5a1a25002423e83fb301b3a225 [min c as.length, as.length - (c + 1), news.length, m, as.length, c] [] ln hm a2 (Nat.min_le_left c as.length) (Nat.sub_add_cancel (n := as.length) (m := c + 1) (lq 0x22211b0a01e0e0ba71 [c, as.length] [] hlt))⟩ ?_
   intro t ω5 t1 t2 t3 t4
   have e5 := (e3.trans s3).trans t3
   have et : List.map V.ref (as.take c) ++ [V.ref (ga os i)] ++ List.map V.ref (as.drop (c + 1)) = (as.set c (ga os i)).map .ref := by
    rw [← Sz (by exact o10 hlt)]; simp
   rw [et] at t4
   have hM := IsM.set (a := t) t4 a2 (fun j hj => e5 _ _ (he _ _ (a3 j hj))) (e5 _ _ hr)
   refine Jt G m hM (by simp [ln]) (fun j hj => ?_) (fun j l => ?_) hk hm fun ω6 e6 => ?_
   ·by_cases z : c = j
    ·subst z; rw [Cb (by exact lq 0x22221012e0e0ba71222 [c, news.length, as.length] [] a2 hlt)]; exact lo' i hi
    ·rw [Da z]; exact ln' j hj
   ·by_cases z : c = j
    ·subst z; rw [Cb (by exact lq 0x22221012e0e0ba71222 [c, news.length, as.length] [] a2 hlt)]; exact bo _ _
    ·rw [Da z]; exact bn _ _
   refine And.intro (hW) (?_)
   have hz : (Fg m (news.set c (gl olds i))).fmod W = 0 := Int.fmod_eq_zero_of_dvd (Int.dvd_of_emod_eq_zero (hdv i c hi hc))
   rw [hz]
   exact And.intro (nofun) (fun _ => ⟨e5.trans e6, rfl⟩)
  ·(refine fun acc ω => yA fun hω zq0 => ?_; subst zq0)
   intro f ω1 f1 f2 f3 f4
   conv => whnf
   intro g ω2 g1 g2 g3 g4
   refine C5 ([]) ([]) ⟨g3 _ _ f4, g4⟩ ?_
   refine And.intro (nofun) (fun _ => ?_)
   exact iEA _ rfl (((he.trans hω).trans f3).trans g3)
 ·(refine fun _ υ => yEA fun u zq0 he => ?_; subst zq0)
  exact hQ υ he
end
structure V3 where
 x : Int
 y : Int
 z : Int
structure R3 where
 a : V3
 b : V3
 c : V3
noncomputable def V3.dot (u v : V3) : Int := u.x * v.x + u.y * v.y + u.z * v.z
noncomputable def V3.less (u v : V3) (q : Int) : V3 := ⟨u.x - v.x * q, u.y - v.y * q, u.z - v.z * q⟩
noncomputable def R3.det (r : R3) : Int := r.a.x * (r.b.y * r.c.z - r.b.z * r.c.y) - r.a.y * (r.b.x * r.c.z - r.b.z * r.c.x) + r.a.z * (r.b.x * r.c.y - r.b.y * r.c.x)
noncomputable def R3.d1 (r : R3) : Int := r.a.dot r.a
noncomputable def R3.l10 (r : R3) : Int := r.b.dot r.a
noncomputable def R3.d2 (r : R3) : Int := r.a.dot r.a * r.b.dot r.b - r.b.dot r.a * r.b.dot r.a
noncomputable def R3.l20 (r : R3) : Int := r.c.dot r.a
noncomputable def R3.l21 (r : R3) : Int := r.a.dot r.a * r.c.dot r.b - r.c.dot r.a * r.b.dot r.a
noncomputable def R3.d3 (r : R3) : Int := r.det * r.det
noncomputable def R3.e2 (r : R3) : Int := r.a.dot r.a * r.c.dot r.c - r.c.dot r.a * r.c.dot r.a
noncomputable def Hl (g00 g10 g11 g20 g21 g22 : Int) : Int := g00 * (g11 * g22 - g21 * g21) - g10 * (g10 * g22 - g21 * g20) + g20 * (g10 * g21 - g11 * g20)
set_option maxHeartbeats 4000000 in
theorem Wr (r : R3) : r.d3 = Hl (r.a.dot r.a) (r.b.dot r.a) (r.b.dot r.b) (r.c.dot r.a) (r.c.dot r.b) (r.c.dot r.c) := by
 obtain ⟨⟨a, b, c⟩, ⟨d, e, f⟩, ⟨g, h, i⟩⟩ := r
 simp only [R3.d3, R3.det, Hl, V3.dot]
 grind
theorem eV (g00 g10 g11 g20 g21 g22 : Int) : (g00 * g11 - g10 * g10) * (g00 * g22 - g20 * g20) - (g00 * g21 - g20 * g10) * (g00 * g21 - g20 * g10) = g00 * Hl g00 g10 g11 g20 g21 g22 := by
 unfold Hl; grind
theorem R3.syl (r : R3) : r.d2 * r.e2 = r.d1 * r.d3 + r.l21 * r.l21 := by
 rw [Wr]
 have := eV (r.a.dot r.a) (r.b.dot r.a) (r.b.dot r.b) (r.c.dot r.a) (r.c.dot r.b) (r.c.dot r.c)
 unfold R3.d2 R3.e2 R3.d1 R3.l21
 exact lz 0x122221a08120c81 [(r.a.dot r.a * r.b.dot r.b - r.b.dot r.a * r.b.dot r.a) * (r.a.dot r.a * r.c.dot r.c - r.c.dot r.a * r.c.dot r.a), r.a.dot r.a * Hl (r.a.dot r.a) (r.b.dot r.a) (r.b.dot r.b) (r.c.dot r.a) (r.c.dot r.b) (r.c.dot r.c), (r.a.dot r.a * r.c.dot r.b - r.c.dot r.a * r.b.dot r.a) * (r.a.dot r.a * r.c.dot r.b - r.c.dot r.a * r.b.dot r.a)] this
noncomputable def R3.lc3 (r : R3) (t b : Int) : LC := ⟨[[r.a.x, r.a.y, r.a.z], [r.b.x, r.b.y, r.b.z], [r.c.x, r.c.y, r.c.z]], [1, r.d1, r.d2, r.d3], [[], [r.l10], [r.l20, r.l21]], t, b⟩
noncomputable def R3.lc2 (r : R3) (t b : Int) : LC := ⟨[[r.a.x, r.a.y], [r.b.x, r.b.y]], [1, r.d1, r.d2], [[], [r.l10]], t, b⟩
noncomputable def R3.flat (r : R3) : Prop := r.a.z = 0 ∧ r.b.z = 0 ∧ r.c = ⟨0, 0, 1⟩
noncomputable def R3.s10 (r : R3) (q : Int) : R3 := { r with b := r.b.less r.a q }
noncomputable def R3.s20 (r : R3) (q : Int) : R3 := { r with c := r.c.less r.a q }
noncomputable def R3.s21 (r : R3) (q : Int) : R3 := { r with c := r.c.less r.b q }
noncomputable def R3.x1 (r : R3) : R3 := { r with a := r.b, b := r.a }
noncomputable def R3.x2 (r : R3) : R3 := { r with b := r.c, c := r.b }
section
variable (r : R3) (q : Int)
theorem Ms : (r.s10 q).d1 = r.d1 := rfl
theorem Jm : (r.s10 q).l10 = r.l10 - q * r.d1 := by simp only [R3.s10, R3.l10, R3.d1, V3.less, V3.dot]; grind
theorem Mr : (r.s10 q).d2 = r.d2 := by simp only [R3.s10, R3.d2, V3.less, V3.dot]; grind
theorem Yh : (r.s10 q).l20 = r.l20 := rfl
theorem Yg : (r.s10 q).l21 = r.l21 := by simp only [R3.s10, R3.l21, V3.less, V3.dot]; grind
theorem R4 : (r.s10 q).det = r.det := by simp only [R3.s10, R3.det, V3.less]; grind
theorem Vz : (r.s10 q).d3 = r.d3 := by unfold R3.d3; rw [R4]
theorem Qd : (r.s20 q).d1 = r.d1 := rfl
theorem R0 : (r.s20 q).l10 = r.l10 := rfl
theorem Qc : (r.s20 q).d2 = r.d2 := rfl
theorem Rz : (r.s20 q).l20 = r.l20 - q * r.d1 := by simp only [R3.s20, R3.l20, R3.d1, V3.less, V3.dot]; grind
theorem Ry : (r.s20 q).l21 = r.l21 := by simp only [R3.s20, R3.l21, V3.less, V3.dot]; grind
theorem R2 : (r.s20 q).det = r.det := by simp only [R3.s20, R3.det, V3.less]; grind
theorem Qb : (r.s20 q).d3 = r.d3 := by unfold R3.d3; rw [R2]
theorem Qa : (r.s21 q).d1 = r.d1 := rfl
theorem Rw : (r.s21 q).l10 = r.l10 := rfl
theorem Mq : (r.s21 q).d2 = r.d2 := rfl
theorem Ye : (r.s21 q).l20 = r.l20 - q * r.l10 := by simp only [R3.s21, R3.l20, R3.l10, V3.less, V3.dot]; grind
theorem Rv : (r.s21 q).l21 = r.l21 - q * r.d2 := by simp only [R3.s21, R3.l21, R3.d2, V3.less, V3.dot]; grind
theorem Rx : (r.s21 q).det = r.det := by simp only [R3.s21, R3.det, V3.less]; grind
theorem P9 : (r.s21 q).d3 = r.d3 := by unfold R3.d3; rw [Rx]
theorem Ux : r.x1.det = -r.det := by simp only [R3.x1, R3.det]; grind
theorem Us : r.x2.det = -r.det := by simp only [R3.x2, R3.det]; grind
theorem Uy : r.x1.d3 = r.d3 := by unfold R3.d3; rw [Ux]; grind
theorem Ut : r.x2.d3 = r.d3 := by unfold R3.d3; rw [Us]; grind
theorem Jz : r.x1.d2 = r.d2 := by simp only [R3.x1, R3.d2, V3.dot]; grind
theorem Uw : r.x1.l10 = r.l10 := by simp only [R3.x1, R3.l10, V3.dot]; grind
theorem Rk : r.x1.d1 * r.d1 = r.d2 + r.l10 * r.l10 := by simp only [R3.x1, R3.d1, R3.d2, R3.l10, V3.dot]; grind
theorem aJ : r.x1.l21 * r.d1 = r.d2 * r.l20 - r.l10 * r.l21 := by simp only [R3.x1, R3.l21, R3.d1, R3.d2, R3.l20, R3.l10, V3.dot]; grind
theorem aK : r.x1.l20 * r.d2 = r.x1.d1 * r.l21 + r.l10 * r.x1.l21 := by simp only [R3.x1, R3.l21, R3.d1, R3.d2, R3.l20, R3.l10, V3.dot]; grind
theorem Uu : r.x2.d1 = r.d1 := rfl
theorem aI : r.x2.l21 = r.l21 := by simp only [R3.x2, R3.l21, V3.dot]; grind
theorem Z5 : r.x2.d2 * r.d2 = r.d1 * r.d3 + r.l21 * r.l21 := by
 have := r.syl
 have e : r.x2.d2 = r.e2 := rfl
 rw [e, Int.mul_comm]; exact this
end
section
variable (r : R3) (t b : Int)
noncomputable def q10 (r : R3) : Int := (2 * r.l10 + r.d1).fdiv (2 * r.d1)
noncomputable def q20 (r : R3) : Int := (2 * r.l20 + r.d1).fdiv (2 * r.d1)
noncomputable def q21 (r : R3) : Int := (2 * r.l21 + r.d2).fdiv (2 * r.d2)
theorem Ym : quo (r.lc3 t b) 1 0 = q10 r := rfl
theorem Yl : quo (r.lc3 t b) 2 0 = q20 r := rfl
theorem Yk : quo (r.lc3 t b) 2 1 = q21 r := rfl
theorem Yn : quo (r.lc2 t b) 1 0 = q10 r := rfl
theorem aV : Cz (r.lc3 t b) 1 0 = (r.s10 (q10 r)).lc3 t b := by
 unfold Cz
 rw [Ym]
 generalize q10 r = q
 unfold R3.lc3
 rw [Ms, Mr, Vz, Jm, Yh, Yg]
 rfl
theorem aU : Cz (r.lc3 t b) 2 0 = (r.s20 (q20 r)).lc3 t b := by
 unfold Cz
 rw [Yl]
 generalize q20 r = q
 unfold R3.lc3
 rw [Qd, Qc, Qb, R0, Rz, Ry]
 rfl
theorem aT : Cz (r.lc3 t b) 2 1 = (r.s21 (q21 r)).lc3 t b := by
 unfold Cz
 rw [Yk]
 generalize q21 r = q
 unfold R3.lc3
 rw [Qa, Mq, P9, Rw, Ye, Rv]
 rfl
theorem aW : Cz (r.lc2 t b) 1 0 = (r.s10 (q10 r)).lc2 t b := by
 unfold Cz
 rw [Yn]
 generalize q10 r = q
 unfold R3.lc2
 rw [Ms, Mr, Jm]
 rfl
theorem Ge {x y z : Int} (hy : y ≠ 0) (h : z * y = x) : x.tdiv y = z := by subst h; exact Int.mul_tdiv_cancel _ hy
theorem eC (h1 : r.d1 ≠ 0) (h2 : r.d2 ≠ 0) : exL (r.lc3 t b) 1 = r.x1.lc3 t b := by
 have e1 : Lf (r.lc3 t b) 1 = r.x1.d1 := by
  show (1 * r.d2 + r.l10 * r.l10).tdiv r.d1 = _
  exact Ge h1 (by rw [Rk]; exact lz 0x221018a10a80 [r.d2, r.l10 * r.l10])
 have e2 : exB (r.lc3 t b) 1 [r.l20, r.l21] = r.x1.l21 := by
  show (r.d2 * r.l20 - r.l10 * r.l21).tdiv r.d1 = _
  exact Ge h1 (aJ r)
 have e3 : exI (r.lc3 t b) 1 [r.l20, r.l21] = [r.x1.l20, r.x1.l21] := by
  unfold exI
  rw [e1, e2]
  have : (r.x1.d1 * gt [r.l20, r.l21] 1 + gt (gl (r.lc3 t b).parts 1) (1 - 1) * r.x1.l21).tdiv (gt (r.lc3 t b).sizes (1 + 1)) = r.x1.l20 := Ge h2 (aK r)
  rw [this]
  rfl
 unfold exL
 rw [e1]
 have e4 : exP (r.lc3 t b) 1 ((r.lc3 t b).parts.length - (1 + 1)) = [[], [r.l10], [r.x1.l20, r.x1.l21]] := by
  show (exP (r.lc3 t b) 1 0).set 2 (exI (r.lc3 t b) 1 [r.l20, r.l21]) = _
  rw [e3]; rfl
 rw [e4]
 unfold R3.lc3
 rw [Jz, Uy, Uw]
 rfl
theorem eB (h2 : r.d2 ≠ 0) : exL (r.lc3 t b) 2 = r.x2.lc3 t b := by
 have e1 : Lf (r.lc3 t b) 2 = r.x2.d2 := by
  show (r.d1 * r.d3 + r.l21 * r.l21).tdiv r.d2 = _
  exact Ge h2 (Z5 r)
 unfold exL
 rw [e1]
 unfold R3.lc3
 rw [Ut, aI]
 rfl
theorem eD (h1 : r.d1 ≠ 0) : exL (r.lc2 t b) 1 = r.x1.lc2 t b := by
 have e1 : Lf (r.lc2 t b) 1 = r.x1.d1 := by
  show (1 * r.d2 + r.l10 * r.l10).tdiv r.d1 = _
  exact Ge h1 (by rw [Rk]; exact lz 0x221018a10a80 [r.d2, r.l10 * r.l10])
 unfold exL
 rw [e1]
 unfold R3.lc2
 rw [Jz, Uw]
 rfl
noncomputable def R3.rows3 (r : R3) : List (List Int) := [[r.a.x, r.a.y, r.a.z], [r.b.x, r.b.y, r.b.z], [r.c.x, r.c.y, r.c.z]]
noncomputable def R3.rows2 (r : R3) : List (List Int) := [[r.a.x, r.a.y], [r.b.x, r.b.y]]
theorem Gq (u v : V3) : Aq [u.x, u.y, u.z] [v.x, v.y, v.z] = u.dot v := by simp only [Aq, V3.dot]; exact lz 0x22210aa0b2a1a0a80 [u.x * v.x, u.y * v.y, u.z * v.z]
theorem Qy (u v : V3) (h : u.z = 0) : Aq [u.x, u.y] [v.x, v.y] = u.dot v := by simp only [Aq, V3.dot]; rw [h]; exact lz 0x2220810aa0b1a0a80 [u.x * v.x, u.y * v.y, v.z]
theorem tdiv_one (x : Int) : x.tdiv 1 = x := Int.tdiv_one x
theorem cW : tkL ⟨r.rows3, [1], [], t, b⟩ 0 = ⟨r.rows3, [1, r.d1], [[]], t, b⟩ := by
 show LC.mk r.rows3 [1, Aq [r.a.x, r.a.y, r.a.z] [r.a.x, r.a.y, r.a.z]] [[]] t b = _
 rw [Gq]; rfl
theorem cX (h : r.flat) : tkL ⟨r.rows2, [1], [], t, b⟩ 0 = ⟨r.rows2, [1, r.d1], [[]], t, b⟩ := by
 show LC.mk r.rows2 [1, Aq [r.a.x, r.a.y] [r.a.x, r.a.y]] [[]] t b = _
 rw [Qy _ _ h.1]; rfl
theorem cV : tkL ⟨r.rows3, [1, r.d1], [[]], t, b⟩ 1 = ⟨r.rows3, [1, r.d1, r.d2], [[], [r.l10]], t, b⟩ := by
 show LC.mk r.rows3 [1, r.d1, (r.d1 * Aq [r.b.x, r.b.y, r.b.z] [r.b.x, r.b.y, r.b.z] - Aq [r.b.x, r.b.y, r.b.z] [r.a.x, r.a.y, r.a.z] * Aq [r.b.x, r.b.y, r.b.z] [r.a.x, r.a.y, r.a.z]).tdiv 1] [[], [Aq [r.b.x, r.b.y, r.b.z] [r.a.x, r.a.y, r.a.z]]] t b = _
 rw [Gq, Gq, tdiv_one]; rfl
theorem Z9 (h : r.flat) : tkL ⟨r.rows2, [1, r.d1], [[]], t, b⟩ 1 = r.lc2 t b := by
 show LC.mk r.rows2 [1, r.d1, (r.d1 * Aq [r.b.x, r.b.y] [r.b.x, r.b.y] - Aq [r.b.x, r.b.y] [r.a.x, r.a.y] * Aq [r.b.x, r.b.y] [r.a.x, r.a.y]).tdiv 1] [[], [Aq [r.b.x, r.b.y] [r.a.x, r.a.y]]] t b = _
 rw [Qy _ _ h.2.1, Qy _ _ h.2.1, tdiv_one]; rfl
theorem Z8 (h1 : r.d1 ≠ 0) : tkL ⟨r.rows3, [1, r.d1, r.d2], [[], [r.l10]], t, b⟩ 2 = r.lc3 t b := by
 have e21 : (r.d1 * r.c.dot r.b - r.c.dot r.a * r.l10).tdiv 1 = r.l21 := by rw [tdiv_one]; rfl
 have e2 : (r.d1 * r.c.dot r.c - r.c.dot r.a * r.c.dot r.a).tdiv 1 = r.e2 := by rw [tdiv_one]; rfl
 have e3 : (r.d2 * r.e2 - r.l21 * r.l21).tdiv r.d1 = r.d3 := Ge h1 (by rw [r.syl, Int.mul_comm r.d3]; exact lz 0x22110ac080 [r.d1 * r.d3, r.l21 * r.l21])
 show LC.mk r.rows3 [1, r.d1, r.d2, (r.d2 * (r.d1 * Aq [r.c.x, r.c.y, r.c.z] [r.c.x, r.c.y, r.c.z] - Aq [r.c.x, r.c.y, r.c.z] [r.a.x, r.a.y, r.a.z] * Aq [r.c.x, r.c.y, r.c.z] [r.a.x, r.a.y, r.a.z]).tdiv 1 -
   (r.d1 * Aq [r.c.x, r.c.y, r.c.z] [r.b.x, r.b.y, r.b.z] - Aq [r.c.x, r.c.y, r.c.z] [r.a.x, r.a.y, r.a.z] * r.l10).tdiv 1 * (r.d1 * Aq [r.c.x, r.c.y, r.c.z] [r.b.x, r.b.y, r.b.z] - Aq [r.c.x, r.c.y, r.c.z] [r.a.x, r.a.y, r.a.z] * r.l10).tdiv 1).tdiv r.d1]
  [[], [r.l10], [Aq [r.c.x, r.c.y, r.c.z] [r.a.x, r.a.y, r.a.z], (r.d1 * Aq [r.c.x, r.c.y, r.c.z] [r.b.x, r.b.y, r.b.z] - Aq [r.c.x, r.c.y, r.c.z] [r.a.x, r.a.y, r.a.z] * r.l10).tdiv 1]] t b = _
 rw [Gq, Gq, Gq, e21, e2, e3]
 rfl
end
theorem Qq {base : Heap} {l : List Env} {e L : Addr} {cls a0 : Value} {M : Model} {A : Around} {E : Value → Shared → Prop} {s : Shared} {Q : Unit → Shared → Prop} (hh : Heap.HeldW base l e cls a0 L s.heap)
  (hQ : ∀ h', Heap.HeldW base l e cls a0 L h' → s.heap.UpToSlots h' → Q () { s with heap := h' }) : wpAny M A (setFlight (.ref e) (some L)) Q E s := by
 (refine Up hh fun hkb hen hl oe vs T oT zq0 => ?_; refine Ek zq0 fun ts he hcls hd h1 hnT hTe zq1 => ?_; refine zAA zq1 fun hT hdT h3 => ?_)
 have hsz3 : 3 < ts.size := (Array.getElem?_eq_some_iff.mp h3).1
 have other : ∀ b, b ≠ T → (s.heap.update T (Obj.mapFields (·.setIfInBounds 3 ((some L : Option Addr).elim Value.none fun f => rawInt f)))).get? b = s.heap.get? b :=
  fun b hb => Heap.get?_update_other _ _ (Ne.symm hb)
 have noRecord : ∀ b o, s.heap.get? b = some o → (∀ vs, o.data ≠ .fields vs) → b ≠ T := fun b o hb hnf q => by
  rw [q, hT] at hb; injection hb with hb; subst hb; exact hnf ts hdT
 unfold setFlight
 refine wpAny_bind (wpAny_field he hd h1 ?_)
 rw [if_pos (show (Value.ref T != Value.none) = true from by simp)]
 refine wpAny_setField hT hdT hsz3 (hQ _ ⟨fun b o hbo => (other b fun q => by rw [q, hnT] at hbo; cases hbo).trans (hkb b o hbo), hen, hl.of_keeps fun b o hb hnf => iEA o ((other b (noRecord b o hb hnf)).trans hb) rfl, ?_⟩ fun b o hb hnf => ⟨o.slots, (other b (noRecord b o hb hnf)).trans hb⟩)
 exact E8 oe vs T _ _ ⟨(other e (Ne.symm hTe)).trans he, hcls, hd, h1, hnT, hTe, Heap.get?_update_self _ hT (Obj.isFreed_of_fields (Obj.data_mapFields hdT _)), Obj.data_mapFields hdT _, by simp [hsz3]⟩
noncomputable def Pe (env : Env) (z : Int) (os : OsState) (gens : Array GenState) (s : Shared) : Prop := (∃ m, s.heap.Ns env.locals m ∧ ∃ t, m "worth" = some (.int z t)) ∧ s.os = os ∧ s.gens = gens
theorem Pe.slots {env : Env} {z : Int} {os : OsState} {gens : Array GenState} {s : Shared} (h : Pe env z os gens s) {h' : Heap} (u : s.heap.UpToSlots h') : Pe env z os gens { s with heap := h' } := by
 (refine zAA h fun zq0 h3 h4 => ?_; refine zEA zq0 fun m h1 h2 => ?_)
 exact ⟨(iEA m (u.ns h1) h2), h3, h4⟩
noncomputable def Thr (h0 : Heap) (env : Env) (z : Int) (os : OsState) (gens : Array GenState) (e : Value) (s : Shared) : Prop := ∃ a a0, e = .ref a ∧ Heap.FlyingW h0 [env] a (.ref 49) a0 s.heap ∧ Pe env z os gens s
noncomputable def Hld (h0 : Heap) (env : Env) (z : Int) (os : OsState) (gens : Array GenState) (e : Value) (s : Shared) : Prop := ∃ a a0, e = .ref a ∧ Heap.HeldW h0 [env] a (.ref 49) a0 env.locals s.heap ∧ Pe env z os gens s
theorem Pl {h0 : Heap} {env : Env} {z : Int} {os : OsState} {gens : Array GenState} {e : Value} {s : Shared} {M : Model} {A : Around} (hfr : A.frames = some [env]) (hf : env.frame = some env.locals) (h : Thr h0 env z os gens e s) :
  notedBy M A env (cameBackBy M A env (Hld h0 env z os gens)) e s := by
 (refine Bv h fun a a0 zq0 h1 h2 => ?_; subst zq0)
 unfold notedBy
 refine wpAny_looks_onW hfr hf h1 fun h' k1 u1 => ?_
 unfold cameBackBy
 obtain ⟨hkb, hen, hl, oe, vs, T, oT, ts, he, hcls, hd, hh1, r⟩ := id k1
 refine wpAny_bind (wpAny_field he hd hh1 ?_)
 rw [if_neg (by simp), hf]
 exact Qq k1 fun h'' k2 u2 => Ba a a0 rfl k2 ((h2.slots u1).slots u2)
section
variable {h0 : Heap} {prog : Program} {w : World} {mg mb : Str → Option Value} (G : Gd (KK w) h0 mg mb) {bmB : List Value} {newId : String}
theorem V1 (P : Params) : nsIn (KO P) mainGlobals "OutOfRange" = some (some (.ref 49)) := by kernel_rfl
include G in
theorem Og {env : Env} {np : Pos} {A : Around} {E : Value → Shared → Prop} {s : Shared} {Q : Value → Shared → Prop} (hkb : ∀ b o, h0.get? b = some o → s.heap.get? b = some o) (eo : Ax h0 env) (hk : env.kindOf "OutOfRange" = some .globalImplicit) (hQ : Q (.ref 49) s) :
  wpAny (model prog w) A (eval (.Name "OutOfRange" np) env) Q E s := by
 refine Name_function_global eo.kind hk (loadGlobal_global (by rw [eo.glob]; exact G.g.keeps hkb) (mg_of G.X G.g (V1 w.params)) hQ) (by decide)
include G in
theorem bQ {env : Env} {z : Int} {os : OsState} {gens : Array GenState} {e : Value} {s : Shared} {A : Around} {E : Value → Shared → Prop} {Q : Flow → Shared → Prop} {np pos rp cp wp rtp : Pos} (O : OwnCls "OutOfRange" 49 bmB newId mg h0) (hbase : bmB.contains (.type "BaseException") = true)
  (hf : env.frame = some env.locals) (eo : Ax h0 env) (hk : env.kindOf "OutOfRange" = some .globalImplicit) (hw : env.kindOf "worth" = some .local)
  (h : Hld h0 env z os gens e s) (hQ : ∀ s', (∀ b o, h0.get? b = some o → s'.heap.get? b = some o) → s'.os = os → s'.gens = gens → Q (.ret (.bool (decide (z = 0)))) s') :
  wpAny (model prog w) A (noteFrame e env) (fun _ s₂ => wpAny (model prog w) A (setFlight e none) (fun _ s₃ => wpAny (model prog w) A (handleBy e env
   [.ExceptHandler (some (.Name "OutOfRange" np)) none [.Return (some (.Compare (.Name "worth" wp) [.Eq] [.Constant (.int 0) 0 cp] rp)) rtp] pos]) Q E s₃) E s₂) E s := by
 (refine Bv h fun a a0 zq0 h1 h2 => ?_; subst zq0)
 refine wpAny_noteFrame_againW hf h1.2.2.2 ?_
 refine wpAny_landsW h1 fun h' k1 u1 => ?_
 have t1 := h2.slots u1
 refine wpAny_handleBy_cons (codeAny_handlers_test (Og G k1.1 eo hk ?_)) (by intro q; cases q)
 (refine Dh ((O.keeps k1.1).obj) fun bm N nm qn bs hdct sn zq0 => ?_; refine Dh zq0 fun sub ab col dd c0 c1 c2 zq1 => ?_; refine Jk zq1 fun c3 c5 mN hC hN hni TL => ?_)
 refine zEA k1.there fun ob hob hobc => ?_
 refine wpAny_excMatches_sub_self hC hob hobc (TL.hasType hbase) (codeAny_handlers_suite ?_)
 refine lands_againW k1 fun h'' k2 u2 => ?_
 obtain ⟨⟨m, n1, t, n2⟩, n3, n4⟩ := t1.slots u2
 refine wpAny_execs_cons (wpAny_Return_some ?_)
 refine wpAny_Compare1 (wpAny_Name (wpAny_loadName_local eo.kind hw n1 n2 ?_)) rfl
 refine wpAny_Constant_int ?_
 refine P.eq_int ?_
 exact hQ _ k2.1 n3 n4
end
section
variable {h0 : Heap} {prog : Program} {w : World} {K : Frag} {mg mb : Str → Option Value} (G : Gd K h0 mg mb) {n : Nat}
include G in
theorem Ov {f : Addr} {o : Obj} {fd : FuncData} {nm : List Str} {body : List Stmt} {k : Nat} {vals : List Value} {σ : Aa} {s : Shared} {A : Around} {Rr : Result → Shared → Prop} (R : Cy A (n + 1)) (kk : Ok h0 σ s)
  (ho : s.heap.get? f = some o) (hd : o.data = .func fd) (hbody : fd.body = .stmts body) (hcd : s.heap.CodeRec fd.code fd.qualname) (hclo : fd.closure = []) (hgl : fd.globals = mainGlobals) (hbi : fd.builtins = builtinsNs)
  (hk : fd.scope.kind = .function) (hsn : An (fd.scope.names.map (·.1)) = true) (hco : fd.scope.isCoroutine = false) (hgen : fd.scope.isGenerator = false) (hnd' : An (nm.take k) = true)
  (hbind : bindArgs fd ⟨vals, []⟩ = pure ((nm.take k).zip vals))
  (hpar : (nm.take k).all (fun x => fd.scope.names.lookup x == some .local || fd.scope.names.lookup x == some .cell) = true) (hkl : k ≤ nm.length) (hvl : vals.length = k)
  (h : ∀ env s1, env.kindOf = (fun x => fd.scope.names.lookup x) → Ax h0 env → Ds env → env.frame = some env.locals → env.scope.kind = .function → (∀ a, Ab env a → s.heap.get? a = none) → Ah h0 Aj σ s σ s1 → Fm env nm (entry nm.length (vals.map Af)) σ s1.heap →
   Cy (A.deeper env) n →
   wpAny (model prog w) (A.deeper env) (execs body env) (fun f s' => Rr (.ok (.ret (match f with | .ret v => v | _ => .none))) s')
    (fun e s' => wpAny (model prog w) (A.deeper env) (leaving env e) (fun _ s'' => Rr (.error e) s'') (fun e' s'' => Rr (.error e') s'') s') s1) :
  codeAny (model prog w) A (.call (.ref f) ⟨vals, []⟩) Rr s := by
 have X := G.X.keeps kk.base
 have hpar' : ∀ x ∈ nm.take k, fd.scope.names.lookup x = some .local ∨ fd.scope.names.lookup x = some .cell := fun x hx => by
  have := List.all_eq_true.mp hpar x hx
  simpa using this
 refine codeAny_call_cells (body := body) (binds := (nm.take k).zip vals) (by have := R.depth; show _ < 1000; exact ln 0x2223e83fb013843fb1b1a0a01 [A.depth, n] this) ho hd (G.lim.keeps kk.base) hcd hbody hbind hclo
  (fun x hx => ?_) (fun s1 x => ?_) hco hgen hk
 ·have hm : x.1 ∈ nm.take k := (List.of_mem_zip hx).1
  rcases hpar' _ hm with q | q
  ·exact .inl q
  ·exact .inr ⟨q, Et (mem_of_lookup (α := NameKind) q)⟩
 generalize he : callEnvC fd s.heap.objs.size f = env at x ⊢
 have hkd : env.kindOf = fun x => fd.scope.names.lookup x := by rw [← he]; rfl
 have hL : s.heap.get? env.locals = none := by rw [← he]; exact get?_size _
 have hLs : env.locals = s.heap.objs.size := by rw [← he]; rfl
 have hcs : ∀ x c, (x, c) ∈ env.cells → s.heap.get? c = none := fun y c hc => by
  have := x.above y c hc
  cases e : s.heap.get? c with
  | none => rfl
  | some o => have lt := Heap.lt_size e; rw [hLs] at this; exact absurd (Nat.lt_trans this lt) (Nat.lt_irrefl _)
 have own : ∀ a, Ab env a → s.heap.get? a = none := fun a ha => by
  rcases ha with rfl | ⟨y, hc⟩
  ·exact hL
  ·exact hcs y a hc
 have eo : Ax h0 env := by
  refine ⟨by rw [← he]; exact hk, by rw [← he]; exact hgl, by rw [← he]; exact hbi, kk.bs hL, fun y c hc => kk.bs (hcs y c hc), fun y hy => ?_, fun y c hc q => ?_⟩
  ·rw [hkd] at hy
   have := Et (k := s.heap.objs.size + 1) (acc := []) (mem_of_lookup (α := NameKind) hy)
   rw [← he]
   exact Option.isSome_iff_exists.mp this
  ·have := x.above y c hc; rw [q] at this; exact Nat.lt_irrefl _ this
 have ap : Ds env := fun y z c h1 h2 => name_of_addr x.apart (mem_of_lookup h1) (mem_of_lookup h2)
 have P1 : Ah h0 Aj σ s σ s1 := by
  (refine Ei x.done fun h' tk zq0 hkp => ?_; subst zq0)
  exact .junk kk hkp
 have F : Fm env nm (entry nm.length (vals.map Af)) σ s1.heap := by
  have pick : ∀ (i : Nat) y v, nm[i]? = some y → (entry nm.length (vals.map Af)).getD i none = some v → ∃ u, (nm.take k)[i]? = some y ∧ vals[i]? = some u ∧ Af u = v := fun i y v e1 e2 => by
   have e3 := Mb e2
   rw [List.getElem?_map] at e3
   refine zEA (Option.map_eq_some_iff.mp e3) fun u hu eu => ?_
   have lt : i < k := by
    rcases Nat.lt_or_ge i k with q | q
    ·exact q
    ·rw [List.getElem?_eq_none (show vals.length ≤ i by exact ln 0x22221001202022 [vals.length, i, k] hvl q)] at hu; cases hu
   exact Ay u (by rw [List.getElem?_take, if_pos lt]; exact e1) hu eu
  refine ⟨iEA _ x.toInCall.ns (fun i y v e1 e2 e3 => ?_), fun i y v e1 e2 e3 => ?_, fun y c hc => ?_, fun a ha => kk.fresh (own a ha)⟩
  ·refine A6 (pick i y v e1 e3) fun u h1 h2 h3 => ?_
   exact iEA u (Kt hnd' h1 h2 e2) h3
  ·refine A6 (pick i y v e1 e3) fun u h1 h2 h3 => ?_
   refine zE (eo.lk y e2) fun c hc => ?_
   refine Ba c u hc ?_ h3
   have := x.cell y c hc
   rwa [Ku hnd' h1 h2 (by rw [e2]; decide)] at this
  ·refine ⟨_, x.cell y c ?_⟩
   rw [← he] at hc ⊢
   exact Gn (acc := []) hsn (fun _ _ _ q => nomatch q) (fun _ _ q => nomatch q) y c hc
 have R1 : Cy (A.deeper env) n := ⟨by have := R.depth; show A.depth + 1 + n ≤ 900; exact ln 0x2223843fb11b0aa03843fb1b1a0a01 [A.depth, n] this, by have := R.units; show A.units + 3 + 100 * n ≤ 5000; exact ln 0x22213884fb1642f83b0aa013884fb1b1a642f80a01 [A.units, n] this, R.handled⟩
 exact h env s1 hkd eo ap (by rw [← he]; rfl) (by rw [← he]; exact hk) own P1 F R1
end
section
variable {h0 : Heap} {prog : Program} {w : World} {mg mb : Str → Option Value} (G : Gd (KK w) h0 mg mb) {n : Nat} {bmB : List Value} {newId : String}
include G in
theorem Td {σ : Aa} {env : Env} {s : Shared} {A : Around} {E : Value → Shared → Prop} {Q : Flow → Shared → Prop} {np cp cpos pos : Pos} {msg : Str} (O : OwnCls "OutOfRange" 49 bmB newId mg h0) (FB : ExcBaseFacts B newId initId bmB)
  (eo : Ax h0 env) (hk : env.kindOf "OutOfRange" = some .globalImplicit) (k : Ok h0 σ s) (hh : A.handled = none)
  (h : ∀ h' e vs tk, Heap.MadeExcOf s.heap h' e (.ref 49) vs → E (.ref e) { s with heap := h', toks := tk }) :
  wpAny (model prog w) A (exec (.Raise (some (.Call (.Name "OutOfRange" np) [.Constant (.str msg) 0 cp] [] cpos)) none pos) env) Q E s := by
 (refine Dh ((O.keeps k.base).obj) fun bm N nmm qn bs hdct sn zq0 => ?_; refine Dh zq0 fun sub ab col dd c0 c1 c2 zq1 => ?_; refine Jk zq1 fun c3 c5 mN hC hN hni TL => ?_)
 refine wpAny_Raise_call_subT (C := 49) (nm := nmm) (q := qn) (N := N) (bs := bs) (bm := bm) (hdct := hdct) (sn := sn) (sub := sub) (ab := ab) (col := col) (dd := dd) (k0 := c0) (k1 := c1) (k2 := c2) (k3 := c3) (k5 := c5) FB (mN := mN) (TL.hasType FB.hasBase) hh rfl hni (Og G k.base eo hk ⟨rfl, ?_⟩)
 refine Calls.evalArgs_plain (spliced_more (rest := []) (wpAny_Constant_str (spliced_none ⟨rfl, by show 1 ≤ sizeLine; decide, hC, hN, TL, fun h' e hm => ?_⟩)))
 exact h h' e _ _ hm
end
section
variable {h0 : Heap} {prog : Program} {w : World} {K : Frag} {mg mb : Str → Option Value} (G : Gd K h0 mg mb) {n : Nat}
include G in
theorem Jn {env : Env} {nm : List Str} {N : Loc → Aa → Prop} {Rt : V → Aa → Prop} {A : Around} {E : Value → Shared → Prop} {Q : Flow → Shared → Prop} {rest : List Stmt} (hnd : An nm = true) (eo : Ax h0 env) (ap : Ds env) (R : Cy A n) :
  ∀ (b : Sts) {ρ : Loc} {σ : Aa} {s : Shared}, Fs env.kindOf nm b = true → Ok h0 σ s → Fm env nm ρ σ s.heap → Di (Bs h0) (Am prog w K h0 n) b ρ σ N Rt →
  (∀ ρ' σ' s', N ρ' σ' → Ok h0 σ' s' → Fm env nm ρ' σ' s'.heap → Ah h0 (Ab env) σ s σ' s' → wpAny (model prog w) A (execs rest env) Q E s') →
  (∀ v σ' s', Rt (Af v) σ' → Ah h0 (Ab env) σ s σ' s' → Q (.ret v) s') →
  wpAny (model prog w) A (execs (C8 nm b ++ rest) env) Q E s
 | .nil, ρ, σ, s, ok, k, F, h, hN, hR => hN ρ σ s h k F (.refl k)
 | .cons st r, ρ, σ, s, ok, k, F, h, hN, hR => by
  replace ok := bd2 ok
  show wpAny _ _ (execs (trS nm st :: (C8 nm r ++ rest)) env) _ _ _
  refine wpAny_execs_cons (wpAny_mono (cZ G st (N := fun ρ σ => Di (Bs h0) (Am prog w K h0 n) r ρ σ N Rt) (Rt := Rt) ok.1 hnd eo ap R k F h) (fun f s1 q => ?_) fun _ _ e => e)
  cases f with
  | next =>
   refine Bv q fun ρ1 σ1 h1 F1 P1 => ?_
   exact Jn hnd eo ap R r ok.2 (k.post P1 eo.own) F1 h1 (fun ρ' σ' s' a b c d => hN ρ' σ' s' a b c (P1.trans d)) fun v σ' s' a b => hR v σ' s' a (P1.trans b)
  | ret v =>
   refine zEA q fun σ1 h1 P1 => ?_
   exact hR v σ1 s1 h1 P1
  | _ => exact q.elim
end
theorem Hm {h0 : Heap} {env : Env} {nm : List Str} {ρ : Loc} {σ : Aa} {h : Heap} (F : Fm env nm ρ σ h) (eo : Ax h0 env) (hf : env.frame = some env.locals) :
  env.scope.kind ≠ .module ∧ ∃ L o, env.frame = some L ∧ h0.get? L = none ∧ h.get? L = some o ∧ ∀ vs, o.data ≠ .fields vs := by
 refine ⟨by rw [eo.kind]; decide, ?_⟩
 (refine zEA F.ns fun m zq0 _ => ?_; refine Uo zq0 fun o es ep ho hd _ => ?_)
 exact Br env.locals o hf eo.loc ho (fun vs q => by rw [hd] at q; cases q)
noncomputable def cS : St → Tst
 | .cond c _ _ _ => c
 | _ => .val (.num 0 ⟨0, 0, 0, 0⟩)
noncomputable def Hd : Tst := cS Au.tl.tl.hd
theorem Xr (P : Params) : ∃ (oc : Value) (od : Option Addr) (osl : Array (Option Value)) (name qual : Str) (params : Arguments) (scope : Scope) (dV kV doc pm : Value) (an : Option Addr) (cdv ct : Value),
  (KO P).lookup 273 = some ⟨oc, od, .func (fnOf name qual params (C8 Ak Au) scope dV kV doc pm an cdv ct), osl⟩ ∧ codeIn (KO P) cdv qual = true ∧
  (scope.kind = .function ∧ An (scope.names.map (·.1)) = true ∧ scope.isCoroutine = false ∧ scope.isGenerator = false ∧ An Ak = true ∧ An (Ak.take 2) = true ∧ Fs (fun x => scope.names.lookup x) Ak Au = true ∧
   (Ak.take 2).all (fun x => scope.names.lookup x == some .local || scope.names.lookup x == some .cell) = true ∧ 2 ≤ Ak.length) ∧
  (∀ vals : List Value, vals.length = 2 → bindArgs (fnOf name qual params (C8 Ak Au) scope dV kV doc pm an cdv ct) ⟨vals, []⟩ = pure ((Ak.take 2).zip vals)) ∧
  scope.names.lookup (Str.ofString "OutOfRange") = some NameKind.globalImplicit := by
 have h4 : Se (Gl (me 4)) Ak Au 2 = true := by kernel_rfl
 unfold Se at h4
 simp only [Bool.and_eq_true, Bool.not_eq_true'] at h4
 have h1 : (KO P).lookup 273 = some (Ao (me 4) "Lattice.take_in" (.str "gmp.lattice" 477) 272) := by kernel_rfl
 have h2 : Ao (me 4) "Lattice.take_in" (.str "gmp.lattice" 477) 272 = ⟨.type "function", none, .func (fnOf (Qt (me 4)) "Lattice.take_in" (Qu (me 4)) (C8 Ak Au) (Gl (me 4)) .none .none .none (.str "gmp.lattice" 477) none (.ref 272) .none), #[]⟩ := by kernel_rfl
 refine Dj _ _ _ _ _ _ _ (Dj _ _ _ _ _ _ _ ⟨h1.trans (congrArg some h2), by kernel_rfl, ⟨by kernel_rfl, h4.1, h4.2.1, h4.2.2.1, h4.2.2.2.1, h4.2.2.2.2.1, h4.2.2.2.2.2.1, h4.2.2.2.2.2.2.1, by decide⟩, fun vals h => ?_, by kernel_rfl⟩)
 match vals, h with
 | [a0, a1], _ => kernel_rfl
section
variable {h0 : Heap} {prog : Program} {w : World} {mg mb : Str → Option Value} (G : Gd (KK w) h0 mg mb) {n : Nat} {bmB : List Value} {newId B initId : String}
include G in
theorem Sq {M : Addr → Prop} {s : Addr} {A : LA} {L : LC} {k : Nat} {σ : Aa} {u2 u3 u4 u5 : Option V} {Q : Bool → Aa → Prop} (s4 : Ae h0 M σ s A (tkL L k)) (hs : L.sizes.length = k + 1) (hd : tkD L k = 0) (hQ : Q true σ) :
  wpT (Bs h0) (CC prog w h0 (n + 6)) Hd [some (.ref s), some (.int (k : Nat)), u2, u3, u4, u5] σ Q := by
 refine zEA s4.sizes fun ss hss hS => ?_
 refine zEA (hS.at (i := k + 1) (by show k + 1 < (L.sizes ++ [tkD L k]).length; rw [List.length_append, hs]; exact Nat.lt_succ_self _)) fun z z1 z2 => ?_
 have ez : gt (tkL L k).sizes (k + 1) = tkD L k := by
  show gt (L.sizes ++ [tkD L k]) (k + 1) = _
  rw [Cu (by rw [hs]; exact Nat.le_refl _), hs]; simp [gt]
 rw [ez, hd] at z2
 conv => whnf
 refine s4.aSx ?_
 conv => whnf
 refine ixL hss (k + 1) z (o8) z1 ?_
 conv => whnf
 refine CC.up (n := n + 1) (O2 G z2 ?_) (gJ)
 rw [if_pos rfl]
 conv => whnf
 exact hQ
include G in
theorem N9 {M : Addr → Prop} {x : Addr} {A' : LA} {L : LC} {k : Nat} {σ : Aa} {s : Shared} {A : Around} {vals : List Value} {env0 : Env} {nm0 : List Str} {ρ0 : Loc} {z : Int} {i0 : Nat}
  (O : OwnCls "OutOfRange" 49 bmB newId mg h0) (FB : ExcBaseFacts B newId initId bmB)
  (R : Cy A (n + 7)) (kk : Ok h0 σ s) (hfr0 : A.frames = some [env0]) (hf0 : env0.frame = some env0.locals) (eo0 : Ax h0 env0) (F0 : Fm env0 nm0 ρ0 σ s.heap) (hz1 : nm0[i0]? = some "worth") (hz2 : env0.kindOf "worth" = some .local) (hz3 : ρ0.getD i0 none = some (.int z))
  (h : Ae h0 M σ x A' L) (ok : N3 L k) (hd : tkD L k = 0) (hv : vals.map Af = [.ref x, .int (k : Nat)]) :
  codeAny (model prog w) A (.call (.ref 273) ⟨vals, []⟩) (fun r s' => ∃ e, r = .error e ∧ Thr h0 env0 z s.os s.gens e s') s := by
 (refine Dh (Xr w.params) fun oc od osl name qual params scope zq0 => ?_; refine Dh zq0 fun dV kV doc pm an cdv ct zq1 => ?_; refine Dz zq1 fun h1 h2 zq2 h3 h4 => ?_; refine Dy zq2 fun a1 a2 a3 a4 a5 a6 a7 zq3 => ?_; have a8 := zq3.1; have a9 := zq3.2)
 have X := G.X.keeps kk.base
 have hvl : vals.length = 2 := by rw [← List.length_map (f := Af), hv]; rfl
 refine Ov G R kk (X _ _ h1) (fd := fnOf name qual params (C8 Ak Au) scope dV kV doc pm an cdv ct) (nm := Ak) (k := 2) rfl rfl (codeRec_of X h2) rfl rfl rfl a1 a2 a3 a4 a6 (h3 vals hvl) a8 a9 hvl fun env s1 hkd eo ap hf hkind own P1 F R1 => ?_
 have ko : Fs env.kindOf Ak Au = true := by rw [hkd]; exact a7
 have k1 := kk.post0 P1
 rw [hv, show entry Ak.length [V.ref x, V.int (k : Nat)] = [some (.ref x), some (.int (k : Nat)), none, none, none, none] from rfl] at F
 have pre := Oa (n := n) (prog := prog) (R := fun _ _ => False) G (r := .nil) (N := fun ρ σ' => ∃ u2 u3 u4 u5 M' A2, ρ = [some (.ref x), some (.int (k : Nat)), u2, u3, u4, u5] ∧ Ae h0 M' σ' x A2 (tkL L k)) h ok
  fun M' A2 σ' u2 u3 u4 u5 _ _ _ l => Du u2 u3 u4 u5 M' A2 ⟨rfl, l⟩
 rw [H2] at pre
 replace ko := And.intro (bd2 ko).1 (And.intro (bd2 (bd2 ko).2).1 (bd2 (bd2 (bd2 ko).2).2).1)
 show wpAny _ _ (execs (C8 Ak (.cons Au.hd (.cons Au.tl.hd .nil)) ++ [.If (trT Ak Hd) [.Raise (some (.Call (.Name "OutOfRange" ⟨184, 18, 184, 28⟩) [.Constant (.str "rows that depend on one another") 0 ⟨184, 29, 184, 62⟩] [] ⟨184, 18, 184, 63⟩)) none ⟨184, 12, 184, 63⟩] [] ⟨183, 8, 184, 63⟩]) env) _ _ _
 refine Jn G a5 eo ap R1 _ (bdi ko.1 (bdi ko.2.1 rfl)) k1 F pre (fun ρ' σ' s' hN k2 F2 P2 => ?_) fun _ _ _ q => q.elim
 (refine Un hN fun u2 u3 u4 u5 M' A2 zq0 l2 => ?_; subst zq0)
 refine wpAny_execs_cons (wpAny_If ?_)
 have tt := Sq (n := n) (prog := prog) (u2 := u2) (u3 := u3) (u4 := u4) (u5 := u5) (Q := fun t υ => t = true ∧ υ = σ') G l2 ok.hs hd ⟨rfl, rfl⟩
 rw [H2] at tt
 have ko2 : okT env.kindOf Ak Hd = true := by
  exact (bd3 ko.2.2).1.1
 refine wpAny_mono (J7 G Hd ko2 eo R1 k2 F2 tt) (fun t s2 q => ?_) fun _ _ e => e
 (refine zEA q fun σ2 zq0 P3 => ?_; have zq1 := zq0.1; have zq2 := zq0.2; subst zq1; subst zq2)
 rw [if_pos rfl]
 have k3 := k2.post0 P3
 have F3 := F2.post P3
 have PP : Ah h0 Aj σ s σ2 s2 := ((P1.wide.trans P2).trans P3.wide).narrow own
 have F03 := F0.post PP
 refine wpAny_execs_cons (Td G O FB eo (by rw [hkd]; exact h4) k3 R1.handled fun h' e vs tk hm => ?_)
 refine wpAny_leaves_madeW (Around.frames_deeper hfr0) hf k3.base ⟨(Hm F3 eo hf).1, (Hm F3 eo hf).2, (Hm F03 eo0 hf0).1, (Hm F03 eo0 hf0).2, trivial⟩ hm fun h'' t fl _ _ us => ?_
 refine iEA _ rfl (Fa e (.ref t) rfl fl ?_ PP.os PP.gens)
 refine zEA F03.ns fun m n1 n2 => ?_
 refine zEA (n2 _ _ _ hz1 hz2 hz3) fun u q1 q2 => ?_
 (refine zE (Al q2) fun tk' zq0 => ?_; subst zq0)
 exact iEA m (us.ns ((Heap.UpToSlots.of_keeps hm.keeps).ns n1)) ⟨tk', q1⟩
end
structure Gu (M : Addr → Prop) (σ : Aa) (M' : Addr → Prop) (σ' : Aa) : Prop where
 sub : ∀ m, M m → M' m
 fresh : ∀ m, M' m → M m ∨ σ m = none
 ext : Ca M σ σ'
theorem Gu.refl {M : Addr → Prop} {σ : Aa} : Gu M σ M σ := ⟨fun _ h => h, fun _ h => .inl h, fun _ _ _ e => e⟩
theorem Gu.trans {M M1 M2 : Addr → Prop} {σ σ1 σ2 : Aa} (h : Gu M σ M1 σ1) (h' : Gu M1 σ1 M2 σ2) : Gu M σ M2 σ2 := by
 have key : ∀ a o, ¬ M a → σ a = some o → ¬ M1 a := fun a o n e q => by
  rcases h.fresh a q with z | z
  ·exact n z
  ·rw [e] at z; cases z
 refine ⟨fun m q => h'.sub m (h.sub m q), fun m q => ?_, fun a o n e => h'.ext a o (key a o n e) (h.ext a o n e)⟩
 rcases h'.fresh m q with z | z
 ·exact h.fresh m z
 ·by_cases hm : M m
  ·exact .inl hm
  ·right
   cases e : σ m with
   | none => rfl
   | some o => have := h.ext m o hm e; rw [z] at this; cases this
theorem Gu.out {M M' : Addr → Prop} {σ σ' : Aa} (h : Gu M σ M' σ') {a : Addr} {o : Ed} (n : ¬ M a) (e : σ a = some o) : ¬ M' a ∧ σ' a = some o := by
 refine ⟨fun q => ?_, h.ext a o n e⟩
 rcases h.fresh a q with z | z
 ·exact n z
 ·rw [e] at z; cases z
section
variable {h0 : Heap} {prog : Program} {w : World} {K : Frag} {mg mb : Str → Option Value} (G : Gd K h0 mg mb) {n : Nat}
include G in
theorem Wj {b : Sts} (t : Tg) (src : Src) (p : Pos) {env : Env} {nm : List Str} {ρ : Loc} {σ : Aa} {N : Loc → Aa → Prop} {s : Shared} {A : Around} {E : Value → Shared → Prop} {items : List (List V)} {I : Nat → Loc → Aa → Prop} {Thrw : Value → Shared → Prop}
  (o1 : Do t src = true) (o2 : R8 env.kindOf nm t = true) (o3 : L7 env.kindOf nm src = true) (hnd : An nm = true) (eo : Ax h0 env) (ap : Ds env) (R : Cy A n) (k : Ok h0 σ s) (F : Fm env nm ρ σ s.heap)
  (h : L5 (Bs h0) (Am prog w K h0 n) src ρ σ (fun its g σ' => its = items ∧ I 0 ρ σ' ∧ ∀ k ρ σ, I k ρ σ → g σ))
  (hb : ∀ k ρ' σ' s' it E', I k ρ' σ' → items[k]? = some it → Ok h0 σ' s' → Fm env nm (D4 t it ρ') σ' s'.heap → s'.os = s.os → s'.gens = s.gens → (∀ e s'', Thrw e s'' → E' e s'') →
   wpAny (model prog w) A (execs (C8 nm b) env) (Flq h0 env nm (fun ρ σ => I (k + 1) ρ σ) (fun _ _ => False) σ' s') E' s')
  (hE : ∀ e s', Thrw e s' → notedBy (model prog w) A env (cameBackBy (model prog w) A env E) e s')
  (hN : ∀ ρ' σ', I items.length ρ' σ' → N ρ' σ') :
  wpAny (model prog w) A (exec (trS nm (.forr t src b p)) env) (Flq h0 env nm N (fun _ _ => False) σ s) E s := by
 refine wpAny_For (wpAny_mono (H9 G src (E := E) o3 eo R k F h) (fun x s1 h1 => wpAny_mono h1 (fun it s2 h2 => ?_) fun _ _ e => e) fun _ _ e => e) (G8 src)
 refine Jj h2 fun Ia wr items' g St σ2 r => ?_
 (refine zAA r.q fun zq0 i0 ig => ?_; subst zq0)
 rw [r.it]
 have k2 := k.post0 r.post
 have F2 := F.post r.post
 have W := r.iter env nm _ t o1 eo (U4 eo ap hnd o2)
 have wr2 : ∀ b ∈ wr, ∃ o, s2.heap.get? b = some o := r.here _ _ r.start
 have wrn : ∀ b ∈ wr, ¬ Ab env b ∧ Bs h0 b := fun b hb => ⟨fun q => (by refine zE (F.own_there b q) fun o e => ?_; rw [(r.fresh b hb).1] at e; cases e), k.bs (r.fresh b hb).1⟩
 have ended : ∀ {σ' s1 s'} (P1 : Ah h0 (fun a => Ab env a ∨ a ∈ wr) σ2 s2 σ' s1) (ok' : Ok h0 σ' s') (hkeep : ∀ b o, b ∉ wr → s1.heap.get? b = some o → s'.heap.get? b = some o) (ho : s'.os = s1.os) (hg : s'.gens = s1.gens), Ah h0 (Ab env) σ s σ' s' :=
  fun P1 ok' hkeep ho hg => r.post.ended P1 ok' hkeep ho hg (fun b hb => (r.fresh b hb).1) fun a ha => by
   rcases ha with ha | ha
   ·exact .inl ha
   ·exact .inr (r.fresh a ha).1
 refine codeAny_forLoop_any (fun m s' => ∃ j ρ' σ', j ≤ items'.length ∧ m = items'.length + 1 - j ∧ I j ρ' σ' ∧ Ok h0 σ' s' ∧ Fm env nm ρ' σ' s'.heap ∧ St j s'.heap ∧ (∀ b ∈ wr, σ' b = none) ∧ Ah h0 (fun a => Ab env a ∨ a ∈ wr) σ2 s2 σ' s')
  (fun m s' hI => ?_) (items'.length + 1) (Bn 0 ρ σ2 (Nat.zero_le _) rfl i0 k2 ⟨F2, r.start, fun b hb => (r.fresh b hb).2, .refl k2⟩)
 (refine Jx hI fun j ρ' σ' hj zq0 hi k' zq1 => ?_; subst zq0; refine G1 zq1 fun F' st hw P => ?_)
 have hw' : ∀ b ∈ wr, σ' b = none ∧ ¬ Ab env b ∧ Bs h0 b := fun b hb => ⟨hw b hb, wrn b hb⟩
 rcases Nat.lt_or_ge j items'.length with hlt | hge
 ·have hit : items'[j]? = some items'[j] := List.getElem?_eq_getElem hlt
  refine W.turn j s' σ' ρ' _ _ _ _ hit (ig _ _ _ hi) k' F' hw' st fun s3 k3 F3 st3 P3 => ?_
  have P03 : Ah h0 (fun a => Ab env a ∨ a ∈ wr) σ2 s2 σ' s3 := P.trans P3
  refine wpAny_mono (hb j ρ' σ' s3 _ _ hi hit k3 F3 (P03.os.trans r.post.os) (P03.gens.trans r.post.gens) hE) (fun f s4 r4 => ?_) fun _ _ e => e
  cases f with
  | next =>
   refine Bv r4 fun ρ4 σ4 hi4 F4 P4 => ?_
   refine iEA (items'.length + 1 - (j + 1)) (o63 hlt) (Bn (j + 1) ρ4 σ4 hlt rfl hi4 (k3.post P4 eo.own) ⟨F4, ?_, fun b hb => P4.unk (hw b hb) (r.here _ _ st3 b hb), P03.trans (P4.widen fun a q => .inl q)⟩)
   exact r.frame _ _ _ (fun b hb o e => P4.stays (hw b hb) (wrn b hb).1 e) st3
  | ret v =>
   refine zEA r4 fun σ4 hr P4 => ?_
   exact hr.elim
  | _ => exact r4.elim
 ·have hke : j = items'.length := Nat.le_antisymm hj hge
  subst hke
  refine W.done s' σ' ρ' _ _ _ (ig _ _ _ hi) k' F' hw' st fun s3 k3 F3 hlv hkeep ho hgn => ?_
  exact wpAny_execs_nil (Ba ρ' σ' (hN _ _ hi) F3 (ended P k3 hkeep ho hgn))
end
section
variable {h0 : Heap} {prog : Program} {w : World} {mg mb : Str → Option Value} (G : Gd (KK w) h0 mg mb) {n : Nat} {bmB : List Value} {newId B initId : String}
theorem M9 (P : Params) : keepIn (KO P) (.ref 273) = true := by kernel_rfl
include G in
theorem Ob {M : Addr → Prop} {x : Addr} {A' : LA} {L : LC} {k : Nat} {σ : Aa} {s : Shared} {A : Around} {env : Env} {ρ : Loc} {z : Int} {E : Value → Shared → Prop} {Q : Flow → Shared → Prop} {p1 p2 p3 p4 p5 : Pos}
  (O : OwnCls "OutOfRange" 49 bmB newId mg h0) (FB : ExcBaseFacts B newId initId bmB)
  (R : Cy A (n + 7)) (kk : Ok h0 σ s) (hfr : A.frames = some [env]) (hf : env.frame = some env.locals) (eo : Ax h0 env) (F : Fm env Bu ρ σ s.heap) (hz2 : env.kindOf "worth" = some .local)
  (ok1 : okE env.kindOf Bu (.loc 10 p1) = true) (ok2 : Le env.kindOf Bu (.cons (.loc 11 p2) .nil) = true) (hp : (p3.endLine == p4.line) = true)
  (r8 : ρ.getD 8 none = some (.int z)) (r10 : ρ.getD 10 none = some (.ref x)) (r11 : ρ.getD 11 none = some (.int (k : Nat)))
  (h : Ae h0 M σ x A' L) (ok : N3 L k) (hd : tkD L k = 0) (hE : ∀ e s', Thr h0 env z s.os s.gens e s' → E e s') :
  wpAny (model prog w) A (exec (trS Bu (.expr (.meth (.loc 10 p1) "take_in" 273 (.cons (.loc 11 p2) .nil) p3 p4) p5)) env) Q E s := by
 refine wpAny_Expr (wpAny_mono (Q := fun _ _ => False) (E := E) ?_ (fun _ _ h => h.elim) fun _ _ e => e) (by unfold interactive; rw [eo.kind]; rfl) (De (.meth (.loc 10 p1) "take_in" 273 (.cons (.loc 11 p2) .nil) p3 p4) rfl)
 refine Gi (e := .loc 10 p1) rfl hp (Ef (.cons (.loc 11 p2) .nil) (by show 1 < 20; exact dF)) ?_
 refine wpAny_mono (Bj G (.loc 10 p1) (Q := fun v υ => v = .ref x ∧ υ = σ) ok1 eo R kk F ?_) (fun ov s1 q pl => ?_) fun _ _ e => e
 ·exact aZ (P := fun v => v = .ref x ∧ σ = σ) r10 ⟨rfl, rfl⟩
 (refine zEA q fun σ1 zq0 P1 => ?_; have q1 := zq0.1; have zq1 := zq0.2; subst zq1)
 have k1 := kk.post0 P1
 have F1 := F.post P1
 refine Ew (Jp k1 h.inst h.dict) fun es m fa h8 gd gx I => ?_
 rw [Av q1]
 refine zA (G.kf.meth "take_in" 273 (by decide)) fun m1 m2 => ?_
 refine method_fn (G.X.keeps k1.base) I G.kf.ga G.kf.gat m1 m2 (by show (lookIn _ (dictOf es m)).map _ = _; rw [lookIn_dict, Ma fa h8 fun i hi => Oq i (by omega) "take_in" 273 (by decide)]; rfl) ?_
 refine L8 (as := .cons (.loc 11 p2) .nil) (P := fun h => (KK w).In h) (fun hp x => keeps_K (M9 w.params) hp x) (wpAny_mono (Iv G (.cons (.loc 11 p2) .nil) (Q := fun vs υ => vs = [.int (k : Nat)] ∧ υ = σ1) ok2 eo R k1 F1 ?_) (fun vs s2 q => ?_) fun _ _ e => e)
 ·exact aZ (P := fun v => [v] = [.int (k : Nat)] ∧ σ1 = σ1) r11 ⟨rfl, rfl⟩
 (refine A6 q fun σ2 hl zq0 P2 => ?_; have q2 := zq0.1; have zq1 := zq0.2; subst zq1)
 have k2 := k1.post0 P2
 have F2 := F1.post P2
 refine ⟨G.X.keeps k2.base, wpAny_call (codeAny_mono (N9 (n := n) G O FB R k2 hfr hf eo F2 (i0 := 8) rfl hz2 r8 h ok hd (by rw [List.map_append, q2]; rfl)) fun r s3 q => ?_)⟩
 (refine zEA q fun e zq0 th => ?_; subst zq0)
 exact hE e s3 (by rw [P2.os, P2.gens, P1.os, P1.gens] at th; exact th)
include G in
theorem Ro {a0 a1 a3 a4 a5 a6 a7 a9 u0 a12 a13 a14 a15 a16 a17 a18 a19 a20 : Option V} {many : Nat} {z : Int} {x : Addr} {M0 : Addr → Prop} {A0 : LA} {Lk : Nat → LC} {σ : Aa} {s : Shared} {A : Around} {env : Env} {E : Value → Shared → Prop} {Thrw : Value → Shared → Prop}
  (O : OwnCls "OutOfRange" 49 bmB newId mg h0) (FB : ExcBaseFacts B newId initId bmB) (hmany : many ≤ 1000)
  (R : Cy A (n + 7)) (kk : Ok h0 σ s) (hfr : A.frames = some [env]) (hf : env.frame = some env.locals) (eo : Ax h0 env) (ap : Ds env) (hz2 : env.kindOf "worth" = some .local) (hok : Fs env.kindOf Bu Cw = true)
  (F : Fm env Bu [a0, a1, some (.int (many : Nat)), a3, a4, a5, a6, a7, some (.int z), a9, some (.ref x), u0, a12, a13, a14, a15, a16, a17, a18, a19, a20] σ s.heap)
  (h : Ae h0 M0 σ x A0 (Lk 0)) (ok : ∀ k, k < many → (∀ i, i < k → tkD (Lk i) i ≠ 0) → N3 (Lk k) k) (st : ∀ k, k < many → (∀ i, i ≤ k → tkD (Lk i) i ≠ 0) → Lk (k + 1) = tkL (Lk k) k)
  (hthr : ∀ k, k < many → (∀ i, i < k → tkD (Lk i) i ≠ 0) → tkD (Lk k) k = 0 → ∀ e s', Thr h0 env z s.os s.gens e s' → Thrw e s')
  (hE : ∀ e s', Thrw e s' → notedBy (model prog w) A env (cameBackBy (model prog w) A env E) e s') :
  wpAny (model prog w) A (exec (trS Bu Cw.hd) env) (Flq h0 env Bu (fun ρ' σ' => ∃ u M A', ρ' = [a0, a1, some (.int (many : Nat)), a3, a4, a5, a6, a7, some (.int z), a9, some (.ref x), u, a12, a13, a14, a15, a16, a17, a18, a19, a20] ∧
   (∀ i, i < many → tkD (Lk i) i ≠ 0) ∧ Gu M0 σ M σ' ∧ Ae h0 M σ' x A' (Lk many)) (fun _ _ => False) σ s) E s := by
 have ko := hok
 replace ko := And.intro (bd4 (bd2 ko).1) (bd2 ko).2
 (have zq0 := ko.1; have b6 := ko.2; have zq1 := zq0.1; have zq2 := bd2 zq0.2; have b5 := zq2.2; have zq3 := zq1.1; have b3 := zq1.2; have b1 := zq3.1; have b2 := zq3.2; have zq4 := bd2 zq2.1; have b4 := zq4.1; have b4' := zq4.2)
 have b7 := bd6 b4
 refine Wj (n := n + 7) (I := fun k ρ' σ' => ∃ u M A', ρ' = [a0, a1, some (.int (many : Nat)), a3, a4, a5, a6, a7, some (.int z), a9, some (.ref x), u, a12, a13, a14, a15, a16, a17, a18, a19, a20] ∧ k ≤ many ∧
   (∀ i, i < k → tkD (Lk i) i ≠ 0) ∧ Gu M0 σ M σ' ∧ Ae h0 M σ' x A' (Lk k)) (items := J1 0 (many : Nat)) (Thrw := Thrw) G _ _ _ b1 b2 b3 (by rfl) eo ap R kk F ?_ ?_ hE ?_
 ·conv => whnf
  refine ⟨⟨by lia, by lia⟩, rfl, (Bn u0 M0 A0 rfl (Nat.zero_le _) (fun i hi => absurd hi (Nat.not_lt_zero _)) .refl h), fun _ _ _ _ => trivial⟩
 ·(refine fun k _ σ' s' it E' => Bm fun u M A' zq0 hk hnz gr hA => ?_; subst zq0; refine fun hit k' F' ho hg hT => ?_)
  (refine zA (Bx hit) fun zq0 hlt => ?_; subst zq0)
  have hkm : k < many := by exact o10 hlt
  rw [show (0 : Int) + (k : Int) = (k : Nat) by (exact o2)] at F'
  have tk := ok k hkm hnz
  by_cases hd : tkD (Lk k) k = 0
  ·refine wpAny_execs_cons (Ob (n := n) G O FB R k' hfr hf eo F' hz2 b7.1.2 b7.2 b7.1.1.2 rfl rfl rfl hA tk hd fun e s'' th => hT e s'' (hthr k hkm hnz hd e s'' (by rw [ho, hg] at th; exact th)))
  ·have hnz' : ∀ i, i ≤ k → tkD (Lk i) i ≠ 0 := fun i hi => by
    rcases Nat.lt_or_ge i k with q | q
    ·exact hnz i q
    ·rw [show i = k by (exact ln 0x2020221020101002 [i, k] hi q)]; exact hd
   refine J8 G _ (bdi (bdi b4 b4') rfl) (by rfl) eo ap R k' F' ?_
   rw [← H2]
   conv => whnf
   refine ⟨hA.self.inst, ?_⟩
   conv => whnf
   refine T1 G hA tk hd fun M' A2 σ2 q1 q2 q3 q4 => ?_
   conv => whnf
   refine ⟨rfl, Bn _ M' A2 rfl hkm (fun i hi => hnz' i (ln 0x2221001b1a011 [i, k] hi)) (gr.trans ⟨q1, q2, q3⟩) ?_⟩
   rw [st k hkm hnz']
   exact q4
 ·(refine fun _ σ' => Bm fun u M A' zq0 hk hnz gr hA => ?_; subst zq0)
  rw [Bp, show ((many : Int) - 0).toNat = many by rfl] at hnz hA
  exact Nb u M A' rfl hnz gr hA
include G in
theorem U2 {a0 a1 a3 a4 a5 a6 a7 a9 u0 a12 a13 a14 a15 a16 a17 a18 a19 a20 : Option V} {many : Nat} {z : Int} {x : Addr} {M0 : Addr → Prop} {A0 : LA} {Lk : Nat → LC} {σ : Aa} {s : Shared} {A : Around} {env : Env} {E : Value → Shared → Prop} {Q : Flow → Shared → Prop} {np cp rp wp hp rtp pos : Pos}
  (O : OwnCls "OutOfRange" 49 bmB newId mg h0) (FB : ExcBaseFacts B newId initId bmB) (hmany : many ≤ 1000)
  (R : Cy A (n + 7)) (kk : Ok h0 σ s) (hfr : A.frames = some [env]) (hf : env.frame = some env.locals) (eo : Ax h0 env) (ap : Ds env) (hk : env.kindOf "OutOfRange" = some .globalImplicit) (hz2 : env.kindOf "worth" = some .local) (hok : Fs env.kindOf Bu Cw = true)
  (F : Fm env Bu [a0, a1, some (.int (many : Nat)), a3, a4, a5, a6, a7, some (.int z), a9, some (.ref x), u0, a12, a13, a14, a15, a16, a17, a18, a19, a20] σ s.heap)
  (h : Ae h0 M0 σ x A0 (Lk 0)) (ok : ∀ k, k < many → (∀ i, i < k → tkD (Lk i) i ≠ 0) → N3 (Lk k) k) (st : ∀ k, k < many → (∀ i, i ≤ k → tkD (Lk i) i ≠ 0) → Lk (k + 1) = tkL (Lk k) k)
  (hz : ∀ k, k < many → (∀ i, i < k → tkD (Lk i) i ≠ 0) → tkD (Lk k) k = 0 → z = 0)
  (hbad : ∀ s', (∀ b o, h0.get? b = some o → s'.heap.get? b = some o) → s'.os = s.os → s'.gens = s.gens → Q (.ret (.bool true)) s')
  (hgo : ∀ u M A' σ' s', (∀ i, i < many → tkD (Lk i) i ≠ 0) → Gu M0 σ M σ' → Ae h0 M σ' x A' (Lk many) → Ok h0 σ' s' →
   Fm env Bu [a0, a1, some (.int (many : Nat)), a3, a4, a5, a6, a7, some (.int z), a9, some (.ref x), u, a12, a13, a14, a15, a16, a17, a18, a19, a20] σ' s'.heap → Ah h0 (Ab env) σ s σ' s' → Q .next s') :
  wpAny (model prog w) A (exec (.Try (C8 Bu Cw) [.ExceptHandler (some (.Name "OutOfRange" np)) none [.Return (some (.Compare (.Name "worth" wp) [.Eq] [.Constant (.int 0) 0 cp] rp)) rtp] hp] [] [] pos) env) Q E s := by
 refine wpAny_Try_except ?_
 have fin : ∀ {E' : Value → Shared → Prop} (f : Flow) (s' : Shared), Flq h0 env Bu (fun ρ' σ' => ∃ u M A', ρ' = [a0, a1, some (.int (many : Nat)), a3, a4, a5, a6, a7, some (.int z), a9, some (.ref x), u, a12, a13, a14, a15, a16, a17, a18, a19, a20] ∧
   (∀ i, i < many → tkD (Lk i) i ≠ 0) ∧ Gu M0 σ M σ' ∧ Ae h0 M σ' x A' (Lk many)) (fun _ _ => False) σ s f s' → (match f with
    | .next => wpAny (model prog w) A (execs [] env) (fun f s₁ => match f with | .next => wpAny (model prog w) A (execs [] env) Q E s₁ | f => Q f s₁) E' s'
    | f => match f with | .next => wpAny (model prog w) A (execs [] env) Q E s' | f => Q f s') := by
  intro E' f s' q
  cases f with
  | next =>
   (refine Bv q fun _ σ' zq0 q4 q5 => ?_; refine Jk zq0 fun u M A' zq1 q1 q2 q3 => ?_; subst zq1)
   exact wpAny_execs_nil (wpAny_execs_nil (hgo u M A' σ' s' q1 q2 q3 (kk.post q5 eo.own) q4 q5))
  | ret v => refine zEA q fun _ q _ => ?_; exact q.elim
  | _ => exact q.elim
 show wpAny _ _ (execs [trS Bu Cw.hd] env) _ _ _
 by_cases hz0 : z = 0
 ·refine wpAny_mono (E := Hld h0 env z s.os s.gens) (wpAny_execs_cons (wpAny_mono (Ro (n := n) G (Thrw := Thr h0 env z s.os s.gens) O FB hmany R kk hfr hf eo ap hz2 hok F h ok st (fun _ _ _ _ e s' t => t) fun e s' t => Pl hfr hf t) (fun f s' q => ?_) fun _ _ e => e)) (fun _ _ q => q) fun e s1 q => ?_
  ·exact fin f s' q
  ·refine bQ G O FB.hasBase hf eo hk hz2 q fun s' q1 q2 q3 => ?_
   rw [decide_eq_true hz0]
   exact hbad s' q1 q2 q3
 ·refine wpAny_mono (E := fun _ _ => False) (wpAny_execs_cons (wpAny_mono (Ro (n := n) G (Thrw := fun _ _ => False) O FB hmany R kk hfr hf eo ap hz2 hok F h ok st (fun k q1 q2 q3 => absurd (hz k q1 q2 q3) hz0) fun e s' t => t.elim) (fun f s' q => ?_) fun _ _ e => e)) (fun _ _ q => q) fun e s1 q => q.elim
  exact fin f s' q
end
theorem sq0 (x : Int) : 0 ≤ x * x := by
 rcases Int.le_total 0 x with h | h
 ·exact Int.mul_nonneg h h
 ·have := Int.mul_nonneg (show 0 ≤ -x by exact o46 h) (show 0 ≤ -x by exact o46 h)
  rwa [Int.neg_mul_neg] at this
theorem Fy (x : Int) : (x.natAbs : Int) ≤ x * x := by
 rcases Int.le_total 0 x with h | h
 ·rcases Int.lt_or_eq_of_le h with h' | h'
  ·have := Int.mul_le_mul_of_nonneg_right (show 1 ≤ x by assumption) h
   exact lq 0x222200e610e8011862 [x.natAbs] [x * x, x] this (lnn x (lz 0x22200b600b71 [x] h'))
  ·subst h'; decide
 ·rcases Int.lt_or_eq_of_le h with h' | h'
  ·have := Int.mul_le_mul_of_nonneg_right (show 1 ≤ -x by exact lz 0x2220d1b60b071 [x] h') (show 0 ≤ -x by exact lz 0x2220d0b60b071 [x] h')
   rw [Int.neg_mul_neg] at this
   exact lq 0x222200e61d0e801d1862 [x.natAbs] [x * x, x] this (lnq x (lz 0x2220b060b071 [x] h'))
  ·subst h'; decide
theorem Cv {a b c d : Int} (h1 : a ≤ c) (h2 : b ≤ d) (h3 : 0 ≤ b) (h4 : 0 ≤ c) : a * b ≤ c * d := Int.mul_le_mul h1 h2 h3 h4
theorem Va {x d : Int} (h : (x.natAbs : Int) ≤ d) : x * x ≤ d * d := by
 have e : x * x = (x.natAbs : Int) * x.natAbs := by rw [Int.natAbs_mul_self' x]
 rw [e]
 exact Cv h h (o23) (lq 0x22200b600e61 [x.natAbs] [d] h)
theorem Qn {x d : Int} (hx : 0 ≤ x) (hd : 1 ≤ d) : x ≤ d * x := by
 have := Int.mul_le_mul_of_nonneg_right hd hx
 exact lz 0x222106101861 [x, d * x] this
theorem Hg {x d : Int} (hd : 1 ≤ d) : 2 * ((x - (2 * x + d).fdiv (2 * d) * d).natAbs : Int) ≤ d := by
 have e := Int.fdiv_eq_ediv_of_nonneg (2 * x + d) (show 0 ≤ 2 * d by exact lz 0x2420280b601b61 [d] hd)
 have h1 := Int.mul_ediv_add_emod (2 * x + d) (2 * d)
 have h2 := Int.emod_nonneg (2 * x + d) (show 2 * d ≠ 0 by exact lz 0x2420b028b01b61 [d] hd)
 have h3 := Int.emod_lt_of_pos (2 * x + d) (show 0 < 2 * d by exact lz 0x2420280b701b61 [d] hd)
 rw [e]
 generalize (2 * x + d) / (2 * d) = q at *
 have h4 : 2 * d * q = 2 * (q * d) := by rw [Int.mul_assoc, Int.mul_comm d q]
 lia
theorem dO {x d : Int} (hd : 1 ≤ d) : (2 * x + d).fdiv (2 * d) * (2 * x + d).fdiv (2 * d) ≤ 2 * (x * x) + 2 := by
 have h := Hg (x := x) hd
 generalize (2 * x + d).fdiv (2 * d) = q at *
 have h1 : ((q * d).natAbs : Int) ≤ x.natAbs + d := by exact lnl (lq 0x24422410ea061e02cd60e2611e28611b64 [x.natAbs, (x - q * d).natAbs] [q * d, d, x] hd h (lna x) (lnb (x - q * d))) (lq 0x24422410ea0d61e02c60e2d611e28611b64 [x.natAbs, (x - q * d).natAbs] [q * d, d, x] hd h (lnb x) (lna (x - q * d)))
 rw [Int.natAbs_mul] at h1
 have h2 : (q.natAbs : Int) ≤ x.natAbs + 1 := by
  rcases Int.lt_or_le ((x.natAbs : Int) + 1) q.natAbs with c | c
  ·exfalso
   have e1 : ((d.natAbs : Nat) : Int) = d := by exact lq 0x122200e800e81 [d.natAbs] [d] (lnn d (lz 0x22200b601b61 [d] hd))
   rw [Int.natCast_mul, e1] at h1
   have := Int.mul_le_mul_of_nonneg_right (show (x.natAbs : Int) + 2 ≤ q.natAbs by assumption) (show 0 ≤ d by exact lz 0x22200b601b61 [d] hd)
   have := Int.mul_le_mul_of_nonneg_left hd (show (0 : Int) ≤ x.natAbs by exact ln 0x220e0b60 [x.natAbs])
   rw [Int.add_mul] at *
   exact lq 0x222220f20e19610282a600ea1601b64 [x.natAbs] [d, (↑q.natAbs : Int) * d, (↑x.natAbs : Int) * d] hd h1 ‹_› this
  ·exact c
 have h3 := Va h2
 have h4 : (x.natAbs : Int) * x.natAbs = x * x := Int.natAbs_mul_self' x
 have h5 := Fy x
 have h6 : ((x.natAbs : Int) + 1) * (x.natAbs + 1) = x.natAbs * x.natAbs + 2 * x.natAbs + 1 := by
  rw [Int.add_mul, Int.mul_add, Int.one_mul]; exact lq 0x221b0e280aa1b0ea0e190aa80 [x.natAbs] [↑x.natAbs * ↑x.natAbs]
 have h7 := sq0 ((x.natAbs : Int) - 1)
 have h8 : ((x.natAbs : Int) - 1) * (x.natAbs - 1) = x.natAbs * x.natAbs - 2 * x.natAbs + 1 := by
  rw [Int.sub_mul, Int.mul_sub, Int.one_mul]; exact lq 0x221b0e280ca1b0ec0e190cc80 [x.natAbs] [↑x.natAbs * ↑x.natAbs]
 exact lq 0x22224222b128a061b0e283ca4840b61b0e283aa281382065 [x.natAbs] [q * q, x * x, ((↑x.natAbs : Int) + 1) * ((↑x.natAbs : Int) + 1), (↑x.natAbs : Int) * (↑x.natAbs : Int), ((↑x.natAbs : Int) - 1) * ((↑x.natAbs : Int) - 1)] h3 h4 h6 h7 h8
theorem V3.dot_nonneg (u : V3) : 0 ≤ u.dot u := by
 have h1 := sq0 u.x; have h2 := sq0 u.y; have h3 := sq0 u.z
 unfold V3.dot; exact lz 0x22222210aa0b620b610b600b63 [u.x * u.x, u.y * u.y, u.z * u.z] h1 h2 h3
theorem V3.ent (u : V3) {T : Int} (h : u.dot u ≤ T) : (u.x.natAbs : Int) ≤ T ∧ (u.y.natAbs : Int) ≤ T ∧ (u.z.natAbs : Int) ≤ T := by
 have h1 := sq0 u.x; have h2 := sq0 u.y; have h3 := sq0 u.z
 have a1 := Fy u.x; have a2 := Fy u.y; have a3 := Fy u.z
 unfold V3.dot at h; exact ⟨lq 0x22222200e621e610e630b60321aa64 [u.x.natAbs, u.y.natAbs] [T, u.x * u.x, u.y * u.y, u.z * u.z] h h3 a1 a2, ⟨lq 0x22222200e620e611e630b60321aa64 [u.y.natAbs, u.x.natAbs] [T, u.x * u.x, u.y * u.y, u.z * u.z] h h3 a1 a2, lq 0x22222200e630e611e620b60321aa64 [u.z.natAbs, u.x.natAbs] [T, u.x * u.x, u.y * u.y, u.z * u.z] h h2 a1 a3⟩⟩
theorem aX (r : R3) (q : Int) : (r.s20 q).e2 = r.e2 := by simp only [R3.s20, R3.e2, V3.less, V3.dot]; grind
theorem Y0 (u v : V3) (q : Int) : (u.less v q).dot (u.less v q) + (u.dot u + 2 * (q * u.dot v) + q * q * v.dot v) = 2 * u.dot u + 2 * (q * q * v.dot v) := by simp only [V3.less, V3.dot]; grind
theorem Ys (u v : V3) (q : Int) : 0 ≤ u.dot u + 2 * (q * u.dot v) + q * q * v.dot v := by
 have h1 := sq0 (u.x + q * v.x); have h2 := sq0 (u.y + q * v.y); have h3 := sq0 (u.z + q * v.z)
 have : u.dot u + 2 * (q * u.dot v) + q * q * v.dot v = (u.x + q * v.x) * (u.x + q * v.x) + (u.y + q * v.y) * (u.y + q * v.y) + (u.z + q * v.z) * (u.z + q * v.z) := by
  simp only [V3.dot]; grind
 exact lz 0x21222221280aa0b6543aa21280aa850b640b630b64 [u.dot u, q * u.dot v, q * q * v.dot v, (u.x + q * v.x) * (u.x + q * v.x), (u.y + q * v.y) * (u.y + q * v.y), (u.z + q * v.z) * (u.z + q * v.z)] h1 h2 h3 this
theorem Y1 (u v : V3) (q : Int) : (u.less v q).dot (u.less v q) ≤ 2 * u.dot u + 2 * (q * q * v.dot v) := by
 have := Y0 u v q; have := Ys u v q; exact lz 0x2222228128a0623281aa0b6228128a23281aa0a82 [(u.less v q).dot (u.less v q), u.dot u, q * q * v.dot v, q * u.dot v] ‹_› this
structure R3.Bd (r : R3) (S U Tb Tc : Int) : Prop where
 p1 : 1 ≤ r.d1
 p2 : 1 ≤ r.d2
 p3 : 1 ≤ r.d3
 s1 : r.d1 ≤ S
 s2 : r.d2 ≤ S
 s3 : r.d3 ≤ U
 nb : r.b.dot r.b ≤ Tb
 nc : r.c.dot r.c ≤ Tc
section
variable {r : R3} {S U Tb Tc : Int}
theorem R3.Bd.e2p (h : r.Bd S U Tb Tc) : 1 ≤ r.e2 := by
 have e := r.syl
 have h1 := sq0 r.l21
 have h2 := Cv h.p1 h.p3 (by decide) (by have := h.p1; exact o3 this)
 rcases Int.lt_or_le 0 r.e2 with c | c
 ·assumption
 ·have := Int.mul_nonneg (show 0 ≤ r.d2 by have := h.p2; exact o3 this) (show 0 ≤ -r.e2 by exact o46 c)
  rw [Int.mul_neg] at this
  exact lz 0x22221001b61d0b621b18630b632a184 [r.e2, r.d2 * r.e2, r.d1 * r.d3, r.l21 * r.l21] e h1 h2 this
theorem R3.Bd.l10 (h : r.Bd S U Tb Tc) : r.l10 * r.l10 ≤ S * Tb := by
 have e : r.d2 = r.d1 * r.b.dot r.b - r.l10 * r.l10 := rfl
 have := Cv h.s1 h.nb r.b.dot_nonneg (by have := h.s1; have := h.p1; exact o47 ‹_› this)
 have := h.p2
 exact lz 0x2222210621b613603c283 [r.l10 * r.l10, S * Tb, r.d2, r.d1 * r.b.dot r.b] e ‹_› this
theorem R3.Bd.e2le (h : r.Bd S U Tb Tc) : r.e2 ≤ S * Tc := by
 have e : r.e2 = r.d1 * r.c.dot r.c - r.l20 * r.l20 := rfl
 have := Cv h.s1 h.nc r.c.dot_nonneg (by have := h.s1; have := h.p1; exact o47 ‹_› this)
 have := sq0 r.l20
 exact lz 0x2222210630b612632c083 [r.e2, S * Tc, r.d1 * r.c.dot r.c, r.l20 * r.l20] e ‹_› this
theorem R3.Bd.l20 (h : r.Bd S U Tb Tc) : r.l20 * r.l20 ≤ S * Tc := by
 have e : r.e2 = r.d1 * r.c.dot r.c - r.l20 * r.l20 := rfl
 have := Cv h.s1 h.nc r.c.dot_nonneg (by have := h.s1; have := h.p1; exact o47 ‹_› this)
 have := h.e2p
 exact lz 0x2222210621b613603c283 [r.l20 * r.l20, S * Tc, r.e2, r.d1 * r.c.dot r.c] e ‹_› this
theorem R3.Bd.l21 (h : r.Bd S U Tb Tc) : r.l21 * r.l21 ≤ S * (S * Tc) := by
 have e := r.syl
 have h2 := Cv h.p1 h.p3 (by decide) (by have := h.p1; exact o3 this)
 have h3 := Cv h.s2 h.e2le (by have := h.e2p; exact o3 this) (by have := h.s2; have := h.p2; exact o47 ‹_› this)
 exact lz 0x2221210612631b18603a283 [r.l21 * r.l21, S * (S * Tc), r.d2 * r.e2, r.d1 * r.d3] e h2 h3
theorem Wc (h1 : 1 ≤ r.d1) (h1' : r.d1 ≤ S) (h2 : r.d2 ≤ S) (hl : 2 * (r.l10.natAbs : Int) ≤ r.d1) : r.b.dot r.b ≤ S + S * S := by
 have e : r.d2 = r.d1 * r.b.dot r.b - r.l10 * r.l10 := rfl
 have h3 := Qn r.b.dot_nonneg h1
 have h4 := Va (show (r.l10.natAbs : Int) ≤ S by exact lq 0x2242400e610e28601611b63 [r.l10.natAbs] [S, r.d1] h1 h1' hl)
 exact lz 0x22212221a0625640654c381364 [r.b.dot r.b, S, S * S, r.d2, r.d1 * r.b.dot r.b, r.l10 * r.l10] h2 e h3 h4
theorem R3.Bd.s10 (h : r.Bd S U Tb Tc) : (r.s10 (q10 r)).Bd S U (S + S * S) Tc := by
 have e1 := Ms r (q10 r); have e2 := Mr r (q10 r); have e3 := Vz r (q10 r)
 refine ⟨h.p1, by rw [e2]; exact h.p2, by rw [e3]; exact h.p3, h.s1, by rw [e2]; exact h.s2, by rw [e3]; exact h.s3, ?_, h.nc⟩
 refine Wc h.p1 h.s1 (by rw [e2]; exact h.s2) ?_
 rw [Jm]
 exact Hg h.p1
theorem R3.Bd.s20 (h : r.Bd S U Tb Tc) : (r.s20 (q20 r)).Bd S U Tb (Tc + S) := by
 have e1 := Qd r (q20 r); have e2 := Qc r (q20 r); have e3 := Qb r (q20 r)
 refine ⟨h.p1, by rw [e2]; exact h.p2, by rw [e3]; exact h.p3, h.s1, by rw [e2]; exact h.s2, by rw [e3]; exact h.s3, h.nb, ?_⟩
 have a1 : (r.s20 (q20 r)).e2 = r.d1 * (r.s20 (q20 r)).c.dot (r.s20 (q20 r)).c - (r.s20 (q20 r)).l20 * (r.s20 (q20 r)).l20 := rfl
 have a2 : r.e2 = r.d1 * r.c.dot r.c - r.l20 * r.l20 := rfl
 rw [aX, Rz] at a1
 have a3 : 2 * ((r.l20 - q20 r * r.d1).natAbs : Int) ≤ r.d1 := Hg h.p1
 have a4 := Va (show ((r.l20 - q20 r * r.d1).natAbs : Int) ≤ r.d1 by exact lq 0x22200e600e2861 [(r.l20 - q20 r * r.d1).natAbs] [r.d1] a3)
 have a5 := sq0 r.l20
 have p := h.p1
 rcases Int.lt_or_le (r.c.dot r.c + r.d1) ((r.s20 (q20 r)).c.dot (r.s20 (q20 r)).c) with c | c
 ·exfalso
  have := Int.mul_le_mul_of_nonneg_left (show r.c.dot r.c + r.d1 + 1 ≤ (r.s20 (q20 r)).c.dot (r.s20 (q20 r)).c by assumption) (show 0 ≤ r.d1 by exact o3 p)
  rw [Int.mul_add, Int.mul_add] at this
  exact lz 0x22222210f161953aa661b640b652643c0821c086 [r.e2, r.d1 * (r.s20 (q20 r)).c.dot (r.s20 (q20 r)).c, (r.l20 - q20 r * r.d1) * (r.l20 - q20 r * r.d1), r.d1 * r.c.dot r.c, r.l20 * r.l20, r.d1 * r.d1, r.d1] a1 a2 a4 a5 p this
 ·have := h.nc; have := h.s1; exact lz 0x2222221a0624613643a063 [(r.s20 (q20 r)).c.dot (r.s20 (q20 r)).c, Tc, S, r.c.dot r.c, r.d1] c ‹_› this
theorem R3.Bd.s21 (h : r.Bd S U Tb Tc) (hT : 1 ≤ Tc) : (r.s21 (q21 r)).Bd S U Tb (2 * Tc + 2 * ((2 * (S * (S * Tc)) + 2) * Tb)) := by
 have e1 := Qa r (q21 r); have e2 := Mq r (q21 r); have e3 := P9 r (q21 r)
 refine ⟨h.p1, by rw [e2]; exact h.p2, by rw [e3]; exact h.p3, h.s1, by rw [e2]; exact h.s2, by rw [e3]; exact h.s3, h.nb, ?_⟩
 have a1 : (r.s21 (q21 r)).c.dot (r.s21 (q21 r)).c ≤ 2 * r.c.dot r.c + 2 * (q21 r * q21 r * r.b.dot r.b) := Y1 r.c r.b (q21 r)
 have a2 : q21 r * q21 r ≤ 2 * (r.l21 * r.l21) + 2 := dO h.p2
 have a3 := h.l21
 have a4 := Cv (show q21 r * q21 r ≤ 2 * (S * (S * Tc)) + 2 by exact lz 0x24222b128a061262b228a062 [q21 r * q21 r, S * (S * Tc), r.l21 * r.l21] a2 a3) h.nb r.b.dot_nonneg (by have := sq0 (q21 r); exact lz 0x224222b028a0b610b60262b228a163 [S * (S * Tc), q21 r * q21 r, r.l21 * r.l21] a2 a3 this)
 have := h.nc
 exact lz 0x24422228128a06136246428328a063 [(r.s21 (q21 r)).c.dot (r.s21 (q21 r)).c, Tc, (2 * (S * (S * Tc)) + 2) * Tb, r.c.dot r.c, q21 r * q21 r * r.b.dot r.b] a1 a4 this
theorem Uv (h1 : 1 ≤ r.d1) (h2 : 1 ≤ r.d2) : 1 ≤ r.x1.d1 := by
 have e := Rk r
 have := sq0 r.l10
 rcases Int.lt_or_le 0 r.x1.d1 with c | c
 ·assumption
 ·have := Int.mul_nonneg (show 0 ≤ -r.x1.d1 by exact o46 c) (show 0 ≤ r.d1 by exact o3 h1)
  rw [Int.neg_mul] at this
  exact lz 0x22212001b62d0b630b631a2811b64 [r.x1.d1, r.d2, r.x1.d1 * r.d1, r.l10 * r.l10] h2 e ‹_› this
theorem R3.Bd.x1 (h : r.Bd S U Tb Tc) (hd : r.x1.d1 ≤ r.d1) (hS : S ≤ Tb) : r.x1.Bd S U Tb Tc := by
 refine ⟨Uv h.p1 h.p2, by rw [Jz]; exact h.p2, by rw [Uy]; exact h.p3, by have := h.s1; exact lz 0x22221061262062 [r.x1.d1, S, r.d1] hd this, by rw [Jz]; exact h.s2, by rw [Uy]; exact h.s3, ?_, h.nc⟩
 have : r.x1.b.dot r.x1.b = r.d1 := rfl
 have := h.s1
 exact lz 0x222221062363081263 [r.x1.b.dot r.x1.b, Tb, S, r.d1] hS ‹_› this
theorem R3.Bd.x2 (h : r.Bd S U Tb Tc) (hd : r.x2.d2 ≤ r.d2) : r.x2.Bd S U Tc Tb := by
 have e : r.x2.d2 = r.e2 := rfl
 exact ⟨h.p1, by rw [e]; exact h.e2p, by rw [Ut]; exact h.p3, h.s1, by have := h.s2; exact lz 0x22221061262062 [r.x2.d2, S, r.d2] hd this, by rw [Ut]; exact h.s3, h.nc, h.nb⟩
end
noncomputable def SS : Int := 8192
noncomputable def UU : Int := 1048576
noncomputable def TT : Nat → Int
 | 0 => 134217728
 | n + 1 => 1073741824 * (TT n * TT n)
theorem Dm : ∀ n, 134217728 ≤ TT n
 | 0 => Int.le_refl _
 | n + 1 => by
  have h := Dm n
  have h1 := Cv h h (by decide) (o48 h)
  show 134217728 ≤ 1073741824 * (TT n * TT n)
  exact lz 0x2800000008f20400000008f880000007fb6080000007fb80000007f861 [TT n * TT n] h1
theorem Hz (n : Nat) : 2 * TT n + 2 * ((2 * (SS * (SS * TT n)) + 2) * TT n) ≤ TT (n + 1) := by
 have h := Dm n
 have h1 := Int.mul_le_mul_of_nonneg_right (show 1 ≤ TT n by exact o19 h) (show 0 ≤ TT n by exact o48 h)
 show _ ≤ 1073741824 * (TT n * TT n)
 have e : (2 * (SS * (SS * TT n)) + 2) * TT n = 134217728 * (TT n * TT n) + 2 * TT n := by
  unfold SS; rw [Int.add_mul, show (2 : Int) * (8192 * (8192 * TT n)) = 134217728 * TT n by exact lz 0x22080000007f8020004f820004f82880 [TT n], Int.mul_assoc]
 rw [e]
 exact lz 0x2600000008f5ffffff48f21400000008f8028180000007f8a28028a610186080000007fb62 [TT n, TT n * TT n] h h1
theorem K6 (n : Nat) : TT n + SS ≤ TT (n + 1) := by
 have h := Dm n
 have h1 := Int.mul_le_mul_of_nonneg_right (show 1 ≤ TT n by exact o19 h) (show 0 ≤ TT n by exact o48 h)
 show _ ≤ 1073741824 * (TT n * TT n)
 unfold SS; exact lz 0x2800000008f7ffffffe8f21400000008f820004fb0a610186080000007fb62 [TT n, TT n * TT n] h h1
theorem C4 {n m : Nat} (h : n ≤ m) : TT n ≤ TT m := by
 induction m with
 | zero => rw [Nat.le_zero.mp h]; exact Int.le_refl _
 | succ m ih =>
  rcases Nat.lt_or_ge m n with q | q
  ·rw [show n = m + 1 by (exact ln 0x2020221b1a020111b1a002 [n, m] h q)]; exact Int.le_refl _
  ·have := ih q; have := K6 m; unfold SS at this; exact lz 0x2222106120004fb2a62062 [TT n, TT (m + 1), TT m] ‹_› this
theorem Xi : ∀ n, TT n * 1073741824 ≤ (2 : Int) ^ (57 * 2 ^ n)
 | 0 => by decide
 | n + 1 => by
  have h := Xi n
  have h0 := Dm n
  have h1 := Cv h h (lz 0x2800000008f20400000008f90b6080000007fb61 [TT n] h0) (by have := Dm n; exact Int.le_trans (show 0 ≤ TT n * 1073741824 by exact lz 0x2800000008f20400000008f90b6080000007fb61 [TT n] h0) h)
  rw [← Int.pow_add, show 57 * 2 ^ n + 57 * 2 ^ n = 57 * 2 ^ (n + 1) by rw [Nat.pow_succ]; (exact ln 0x22029392f80392f80392f8a20 [2 ^ n])] at h1
  have e : TT (n + 1) * 1073741824 = TT n * 1073741824 * (TT n * 1073741824) := by
   show 1073741824 * (TT n * TT n) * 1073741824 = _
   generalize TT n = x
   grind
  rw [e]; exact h1
@[irreducible] noncomputable def KD : Nat := 58369
theorem Pg : KD = 58369 := by unfold KD; rfl
theorem Yq (k : Nat) : (256 : Int) ^ k = 2 ^ (8 * k) := by rw [Int.pow_mul]; rfl
theorem Yr {a b : Nat} (h : a < b) : (2 : Int) ^ a < 2 ^ b := by
 have := Nat.pow_lt_pow_right (show 1 < 2 by decide) h
 have := Int.ofNat_lt.mpr this
 rwa [Int.natCast_pow, Int.natCast_pow] at this
theorem Ni {x : Int} (h : (x.natAbs : Int) ≤ 67108864 * TT 13) : Bnd KD x := by
 unfold Bnd
 have h1 := Xi 13
 have h2 := Dm 13
 have h3 : (2 : Int) ^ (57 * 2 ^ 13) < 256 ^ KD := by
  rw [Yq, Pg]
  exact Yr (by decide)
 exact lq 0x22780000008f22200e7027180000007fb621400000008f96140000007f80e64 [x.natAbs] [256 ^ KD, TT 13, 2 ^ (57 * 2 ^ 13)] h h1 h2 h3
noncomputable def R3.comb (r : R3) (x y z : Int) : V3 := ⟨x * r.a.x + y * r.b.x + z * r.c.x, x * r.a.y + y * r.b.y + z * r.c.y, x * r.a.z + y * r.b.z + z * r.c.z⟩
noncomputable def R3.Spans (r : R3) (v : V3) : Prop := ∃ x y z, v = r.comb x y z
section
variable {r : R3} {v : V3} (q : Int)
theorem V3.ext' {u v : V3} (h1 : u.x = v.x) (h2 : u.y = v.y) (h3 : u.z = v.z) : u = v := by cases u; cases v; simp_all
theorem R3.Spans.s10 (h : r.Spans v) : (r.s10 q).Spans v := by
 (refine Ha h fun x y z zq0 => ?_; subst zq0)
 refine (Hk (x + y * q) y z (V3.ext' ?_ ?_ ?_)) <;> (simp only [R3.comb, R3.s10, V3.less]; grind)
theorem R3.Spans.s20 (h : r.Spans v) : (r.s20 q).Spans v := by
 (refine Ha h fun x y z zq0 => ?_; subst zq0)
 refine (Hk (x + z * q) y z (V3.ext' ?_ ?_ ?_)) <;> (simp only [R3.comb, R3.s20, V3.less]; grind)
theorem R3.Spans.s21 (h : r.Spans v) : (r.s21 q).Spans v := by
 (refine Ha h fun x y z zq0 => ?_; subst zq0)
 refine (Hk x (y + z * q) z (V3.ext' ?_ ?_ ?_)) <;> (simp only [R3.comb, R3.s21, V3.less]; grind)
theorem R3.Spans.x1 (h : r.Spans v) : r.x1.Spans v := by
 (refine Ha h fun x y z zq0 => ?_; subst zq0)
 refine (Hk y x z (V3.ext' ?_ ?_ ?_)) <;> (simp only [R3.comb, R3.x1]; exact gG)
theorem R3.Spans.x2 (h : r.Spans v) : r.x2.Spans v := by
 (refine Ha h fun x y z zq0 => ?_; subst zq0)
 refine (Hk x z y (V3.ext' ?_ ?_ ?_)) <;> (simp only [R3.comb, R3.x2]; exact gF)
theorem R3.Spans.self_a : r.Spans r.a := Hk 1 0 0 (V3.ext' (by simp [R3.comb]) (by simp [R3.comb]) (by simp [R3.comb]))
theorem R3.Spans.self_b : r.Spans r.b := Hk 0 1 0 (V3.ext' (by simp [R3.comb]) (by simp [R3.comb]) (by simp [R3.comb]))
theorem R3.Spans.self_c : r.Spans r.c := Hk 0 0 1 (V3.ext' (by simp [R3.comb]) (by simp [R3.comb]) (by simp [R3.comb]))
theorem aE (x y z : Int) : ({ r with a := r.comb x y z } : R3).det = x * r.det := by simp only [R3.comb, R3.det]; grind
theorem aD (x y z : Int) : ({ r with b := r.comb x y z } : R3).det = y * r.det := by simp only [R3.comb, R3.det]; grind
theorem eE (x y z : Int) : ({ r with c := r.comb x y z } : R3).det = z * r.det := by simp only [R3.comb, R3.det]; grind
end
noncomputable def V3.l3 (v : V3) : List Int := [v.x, v.y, v.z]
noncomputable def V3.l2 (v : V3) : List Int := [v.x, v.y]
theorem Hq (r : R3) : Fg 2 [r.a.l3, r.b.l3, r.c.l3] = r.det := by
 simp only [Fg, Pj, Ft, V3.l3, gl, gt, R3.det]
 simp
 grind
theorem Jr (r : R3) (h : r.flat) : Fg 1 [r.a.l2, r.b.l2] = r.det := by
 refine zAA h fun h1 h2 h3 => ?_
 simp only [Fg, Pj, Ft, V3.l2, gl, gt, R3.det, h1, h2, h3]
 simp
 grind
structure H1 (m : Nat) (t b W : Int) (rows0 : List (List Int)) (L : LC) : Prop where
 top : L.top = t
 bot : L.bot = b
 lr : L.rows.length = m
 lp : L.parts.length = m
 ls : L.sizes.length = m + 1
 lpk : ∀ k, k < m → (gl L.parts k).length = k
 lrk : ∀ k, k < m → (gl L.rows k).length = m
 hb : K8 L
 hr : ∀ i j, Bnd KD (gt (gl L.rows i) j)
 pos : ∀ i, i < m + 1 → 0 < gt L.sizes i
 det : (Fg (m - 1) L.rows).natAbs = W.natAbs
 dvd : ∀ i c, i < m → c < m → Fg (m - 1) (L.rows.set c (gl rows0 i)) % W = 0
theorem Bc {k : Nat} : ∀ j, Bnd k (gt [] j) := fun j => by unfold gt; simp; exact Bnd.zero
theorem Ai {k : Nat} {x : Int} {l : List Int} (h : Bnd k x) (h' : ∀ j, Bnd k (gt l j)) : ∀ j, Bnd k (gt (x :: l) j)
 | 0 => h
 | j + 1 => h' j
theorem Db {k : Nat} : ∀ i j, Bnd k (gt (gl [] i) j) := fun i j => by unfold gl; simp; exact Bc j
theorem A9 {k : Nat} {x : List Int} {l : List (List Int)} (h : ∀ j, Bnd k (gt x j)) (h' : ∀ i j, Bnd k (gt (gl l i) j)) : ∀ i j, Bnd k (gt (gl (x :: l) i) j)
 | 0, j => h j
 | i + 1, j => h' i j
theorem Ga : KD ≤ KB := by rw [Pg, Gb]; decide
theorem Cx {x : Int} (h : (x.natAbs : Int) ≤ 67108864) : Bnd KD x := Ni (by have := Dm 13; exact lq 0x280000007f22040000007f80e6080000007fb640000007fb0e62 [x.natAbs] [TT 13] h this)
section
variable {r r0 : R3} {t b W Tb Tc : Int}
theorem Sn (h : r.Bd SS UU Tb Tc) (hb : Tb ≤ TT 13) (hc : Tc ≤ TT 13) : (∀ x ∈ [r.a.x, r.a.y, r.a.z, r.b.x, r.b.y, r.b.z, r.c.x, r.c.y, r.c.z], Bnd KD x) ∧ (∀ x ∈ [r.d1, r.d2, r.d3, r.l10, r.l20, r.l21], Bnd KD x) := by
 have T13 := Dm 13
 have ea := r.a.ent (show r.a.dot r.a ≤ SS from h.s1)
 have eb := r.b.ent h.nb
 have ec := r.c.ent h.nc
 have l10 := h.l10
 have l20 := h.l20
 have l21 := h.l21
 have a1 := Fy r.l10
 have a2 := Fy r.l20
 have a3 := Fy r.l21
 have p1 := h.p1; have p2 := h.p2; have p3 := h.p3; have s1 := h.s1; have s2 := h.s2; have s3 := h.s3
 unfold SS at *
 unfold UU at *
 constructor
 ·intro x hx
  refine Ni ?_
  simp only [List.mem_cons, List.not_mem_nil, or_false] at hx
  rcases hx with rfl | rfl | rfl | rfl | rfl | rfl | rfl | rfl | rfl <;> lia
 ·intro x hx
  refine Ni ?_
  simp only [List.mem_cons, List.not_mem_nil, or_false] at hx
  rcases hx with rfl | rfl | rfl | rfl | rfl | rfl <;> lia
theorem dY (h : r.Bd SS UU Tb Tc) (hb : Tb ≤ TT 13) (hc : Tc ≤ TT 13) (hW : r.det.natAbs = W.natAbs) (ht : (t.natAbs : Int) ≤ 67108864) (hbt : (b.natAbs : Int) ≤ 67108864) (sa : r.Spans r0.a) (sb : r.Spans r0.b) (sc : r.Spans r0.c) :
  H1 3 t b W [r0.a.l3, r0.b.l3, r0.c.l3] (r.lc3 t b) := by
 refine zA (Sn h hb hc) fun B1 B2 => ?_
 simp only [List.mem_cons, List.not_mem_nil, or_false, forall_eq_or_imp, forall_eq] at B1 B2
 (refine Dy B1 fun x1 x2 x3 x4 x5 x6 x7 zq0 => ?_; have x8 := zq0.1; have x9 := zq0.2)
 refine G0 B2 fun y1 y2 y3 y4 y5 y6 => ?_
 have hrow : ∀ i j, Bnd KD (gt (gl (r.lc3 t b).rows i) j) := A9 (Ai x1 (Ai x2 (Ai x3 Bc))) (A9 (Ai x4 (Ai x5 (Ai x6 Bc))) (A9 (Ai x7 (Ai x8 (Ai x9 Bc))) Db))
 have hdW : W ∣ r.det := Int.natAbs_dvd_natAbs.mp (by rw [hW]; exact Nat.dvd_refl _)
 refine ⟨rfl, rfl, rfl, rfl, rfl, fun k hk => ?_, fun k hk => ?_, ⟨fun i j => (hrow i j).mono Ga, fun i => (Ai (Cx (by decide)) (Ai y1 (Ai y2 (Ai y3 Bc))) i).mono Ga,
  fun i j => (A9 Bc (A9 (Ai y4 Bc) (A9 (Ai y5 (Ai y6 Bc)) Db)) i j).mono Ga, (Cx ht).mono Ga, (Cx hbt).mono Ga⟩, hrow, fun i hi => ?_, ?_, fun i c hi hc => ?_⟩
 ·match k, hk with
  | 0, _ | 1, _ | 2, _ => rfl
 ·match k, hk with
  | 0, _ | 1, _ | 2, _ => rfl
 ·have p1 := h.p1; have p2 := h.p2; have p3 := h.p3
  match i, hi with
  | 0, _ => exact (by decide : (0 : Int) < 1)
  | 1, _ => show 0 < r.d1; assumption
  | 2, _ => show 0 < r.d2; assumption
  | 3, _ => show 0 < r.d3; assumption
 ·show (Fg 2 [r.a.l3, r.b.l3, r.c.l3]).natAbs = _
  rw [Hq, hW]
 ·refine Int.emod_eq_zero_of_dvd ?_
  have main : ∀ v, r.Spans v → W ∣ Fg 2 ([r.a.l3, r.b.l3, r.c.l3].set c v.l3) := by
   (refine fun v => cQ fun x y z zq0 => ?_; subst zq0)
   match c, hc with
   | 0, _ => exact (Hq { r with a := r.comb x y z }) ▸ aE x y z ▸ Int.dvd_mul_of_dvd_right hdW
   | 1, _ => exact (Hq { r with b := r.comb x y z }) ▸ aD x y z ▸ Int.dvd_mul_of_dvd_right hdW
   | 2, _ => exact (Hq { r with c := r.comb x y z }) ▸ eE x y z ▸ Int.dvd_mul_of_dvd_right hdW
  match i, hi with
  | 0, _ => exact main _ sa
  | 1, _ => exact main _ sb
  | 2, _ => exact main _ sc
theorem dZ (h : r.Bd SS UU Tb Tc) (hb : Tb ≤ TT 13) (hc : Tc ≤ TT 13) (hf : r.flat) (hf0 : r0.flat) (hW : r.det.natAbs = W.natAbs) (ht : (t.natAbs : Int) ≤ 67108864) (hbt : (b.natAbs : Int) ≤ 67108864) (sa : r.Spans r0.a) (sb : r.Spans r0.b) :
  H1 2 t b W [r0.a.l2, r0.b.l2] (r.lc2 t b) := by
 refine zA (Sn h hb hc) fun B1 B2 => ?_
 simp only [List.mem_cons, List.not_mem_nil, or_false, forall_eq_or_imp, forall_eq] at B1 B2
 (refine Dy B1 fun x1 x2 x3 x4 x5 x6 x7 zq0 => ?_; have x8 := zq0.1; have x9 := zq0.2)
 refine G0 B2 fun y1 y2 y3 y4 y5 y6 => ?_
 have hrow : ∀ i j, Bnd KD (gt (gl (r.lc2 t b).rows i) j) := A9 (Ai x1 (Ai x2 Bc)) (A9 (Ai x4 (Ai x5 Bc)) Db)
 have hdW : W ∣ r.det := Int.natAbs_dvd_natAbs.mp (by rw [hW]; exact Nat.dvd_refl _)
 refine ⟨rfl, rfl, rfl, rfl, rfl, fun k hk => ?_, fun k hk => ?_, ⟨fun i j => (hrow i j).mono Ga, fun i => (Ai (Cx (by decide)) (Ai y1 (Ai y2 Bc)) i).mono Ga,
  fun i j => (A9 Bc (A9 (Ai y4 Bc) Db) i j).mono Ga, (Cx ht).mono Ga, (Cx hbt).mono Ga⟩, hrow, fun i hi => ?_, ?_, fun i c hi hc => ?_⟩
 ·match k, hk with
  | 0, _ | 1, _ => rfl
 ·match k, hk with
  | 0, _ | 1, _ => rfl
 ·have p1 := h.p1; have p2 := h.p2
  match i, hi with
  | 0, _ => exact (by decide : (0 : Int) < 1)
  | 1, _ => show 0 < r.d1; assumption
  | 2, _ => show 0 < r.d2; assumption
 ·show (Fg 1 [r.a.l2, r.b.l2]).natAbs = _
  rw [Jr r hf, hW]
 ·refine Int.emod_eq_zero_of_dvd ?_
  refine zAA hf fun f1 f2 f3 => ?_
  have main : ∀ v, v.z = 0 → r.Spans v → W ∣ Fg 1 ([r.a.l2, r.b.l2].set c v.l2) := by
   (refine fun v hv => cQ fun x y z zq0 => ?_; subst zq0)
   match c, hc with
   | 0, _ => exact (Jr { r with a := r.comb x y z } ⟨hv, f2, f3⟩) ▸ aE x y z ▸ Int.dvd_mul_of_dvd_right hdW
   | 1, _ => exact (Jr { r with b := r.comb x y z } ⟨f1, hv, f3⟩) ▸ aD x y z ▸ Int.dvd_mul_of_dvd_right hdW
  match i, hi with
  | 0, _ => exact main _ hf0.1 sa
  | 1, _ => exact main _ hf0.2.1 sb
end
noncomputable def R3.rw (m : Nat) (r : R3) : List (List Int) := if m = 2 then [r.a.l2, r.b.l2] else [r.a.l3, r.b.l3, r.c.l3]
structure St3 (m : Nat) (t b W : Int) (r0 r : R3) (L : LC) : Prop where
 det : r.det.natAbs = W.natAbs
 sa : r.Spans r0.a
 sb : r.Spans r0.b
 sc : r.Spans r0.c
 form : (m = 3 ∧ L = r.lc3 t b) ∨ (m = 2 ∧ r.flat ∧ L = r.lc2 t b)
theorem R3.Bd.mono {r : R3} {S U Tb Tc Tb' Tc' : Int} (h : r.Bd S U Tb Tc) (h1 : Tb ≤ Tb') (h2 : Tc ≤ Tc') : r.Bd S U Tb' Tc' := ⟨h.p1, h.p2, h.p3, h.s1, h.s2, h.s3, Int.le_trans h.nb h1, Int.le_trans h.nc h2⟩
theorem Wk {r : R3} (h : r.flat) (q : Int) : (r.s10 q).flat := by
 refine zAA h fun h1 h2 h3 => ?_
 refine ⟨h1, ?_, h3⟩
 simp only [R3.s10, V3.less]; rw [h1, h2]; exact lz 0x220b0080bc80 [q]
theorem Zh {r : R3} (h : r.flat) : r.x1.flat := ⟨h.2.1, h.1, h.2.2⟩
theorem Sf {r : R3} (h : r.flat) : r.d2 = r.det * r.det := by
 refine zAA h fun h1 h2 h3 => ?_
 simp only [R3.d2, R3.det, V3.dot, h1, h2, h3]; grind
section
variable {m : Nat} {t b W : Int} {r0 r : R3} {L : LC} {Tb Tc : Int}
theorem St3.good (h : St3 m t b W r0 r L) (hB : r.Bd SS UU Tb Tc) (hb : Tb ≤ TT 13) (hc : Tc ≤ TT 13) (hf0 : m = 2 → r0.flat) (ht : (t.natAbs : Int) ≤ 67108864) (hbt : (b.natAbs : Int) ≤ 67108864) : H1 m t b W (r0.rw m) L := by
 rcases h.form with ⟨rfl, rfl⟩ | ⟨rfl, hf, rfl⟩
 ·exact dY hB hb hc h.det ht hbt h.sa h.sb h.sc
 ·exact dZ hB hb hc hf (hf0 rfl) h.det ht hbt h.sa h.sb
theorem St3.s10 (h : St3 m t b W r0 r L) : St3 m t b W r0 (r.s10 (q10 r)) (Cz L 1 0) := by
 refine ⟨by rw [R4]; exact h.det, h.sa.s10 _, h.sb.s10 _, h.sc.s10 _, ?_⟩
 rcases h.form with ⟨hm, rfl⟩ | ⟨hm, hf, rfl⟩
 ·exact .inl ⟨hm, aV r t b⟩
 ·exact .inr ⟨hm, Wk hf _, aW r t b⟩
theorem St3.s20 (h : St3 m t b W r0 r L) (hm : m = 3) : St3 m t b W r0 (r.s20 (q20 r)) (Cz L 2 0) := by
 refine ⟨by rw [R2]; exact h.det, h.sa.s20 _, h.sb.s20 _, h.sc.s20 _, ?_⟩
 rcases h.form with ⟨hm, rfl⟩ | ⟨hm', hf, rfl⟩
 ·exact .inl ⟨hm, aU r t b⟩
 ·exact o69 hm hm'
theorem St3.s21 (h : St3 m t b W r0 r L) (hm : m = 3) : St3 m t b W r0 (r.s21 (q21 r)) (Cz L 2 1) := by
 refine ⟨by rw [Rx]; exact h.det, h.sa.s21 _, h.sb.s21 _, h.sc.s21 _, ?_⟩
 rcases h.form with ⟨hm, rfl⟩ | ⟨hm', hf, rfl⟩
 ·exact .inl ⟨hm, aT r t b⟩
 ·exact o69 hm hm'
theorem St3.x1 (h : St3 m t b W r0 r L) (hB : r.Bd SS UU Tb Tc) : St3 m t b W r0 r.x1 (exL L 1) := by
 refine ⟨by rw [Ux, Int.natAbs_neg]; exact h.det, h.sa.x1, h.sb.x1, h.sc.x1, ?_⟩
 have := hB.p1; have := hB.p2
 rcases h.form with ⟨hm, rfl⟩ | ⟨hm, hf, rfl⟩
 ·exact .inl ⟨hm, eC r t b (o49 ‹_›) (o49 this)⟩
 ·exact .inr ⟨hm, Zh hf, eD r t b (o49 ‹_›)⟩
theorem St3.x2 (h : St3 m t b W r0 r L) (hm : m = 3) (hB : r.Bd SS UU Tb Tc) : St3 m t b W r0 r.x2 (exL L 2) := by
 refine ⟨by rw [Us, Int.natAbs_neg]; exact h.det, h.sa.x2, h.sb.x2, h.sc.x2, ?_⟩
 have := hB.p2
 rcases h.form with ⟨hm, rfl⟩ | ⟨hm', hf, rfl⟩
 ·exact .inl ⟨hm, eB r t b (o49 this)⟩
 ·exact o69 hm hm'
theorem St3.g1 (h : St3 m t b W r0 r L) : gt L.sizes 1 = r.d1 := by rcases h.form with ⟨_, rfl⟩ | ⟨_, _, rfl⟩ <;> rfl
theorem St3.g2 (h : St3 m t b W r0 r L) : gt L.sizes 2 = r.d2 := by rcases h.form with ⟨_, rfl⟩ | ⟨_, _, rfl⟩ <;> rfl
theorem St3.g3 (h : St3 m t b W r0 r L) (hm : m = 3) : gt L.sizes 3 = r.d3 := by
 rcases h.form with ⟨_, rfl⟩ | ⟨_, _, rfl⟩
 ·rfl
 ·exact o70 hm ‹_›
theorem St3.g10 (h : St3 m t b W r0 r L) : gt (gl L.parts 1) 0 = r.l10 := by rcases h.form with ⟨_, rfl⟩ | ⟨_, _, rfl⟩ <;> rfl
theorem St3.g21 (h : St3 m t b W r0 r L) (hm : m = 3) : gt (gl L.parts 2) 1 = r.l21 := by
 rcases h.form with ⟨_, rfl⟩ | ⟨_, _, rfl⟩
 ·rfl
 ·exact o70 hm ‹_›
theorem St3.u1 (h : St3 m t b W r0 r L) : Bw L 1 = decide (r.d1 * r.d1 * t ≤ (r.d2 * 1 + r.l10 * r.l10) * b) := by rcases h.form with ⟨_, rfl⟩ | ⟨_, _, rfl⟩ <;> rfl
theorem St3.u2 (h : St3 m t b W r0 r L) (hm : m = 3) : Bw L 2 = decide (r.d2 * r.d2 * t ≤ (r.d3 * r.d1 + r.l21 * r.l21) * b) := by
 rcases h.form with ⟨_, rfl⟩ | ⟨_, _, rfl⟩
 ·rfl
 ·exact False.elim (ln 0x2210f2b023b022 [m] hm ‹_›)
noncomputable def pr (L : LC) : Int := Kb (L.sizes.take (L.sizes.length - 1))
theorem St3.pr3 (h : St3 m t b W r0 r L) (hm : m = 3) : pr L = r.d1 * r.d2 := by
 rcases h.form with ⟨_, rfl⟩ | ⟨_, _, rfl⟩
 ·show 1 * 1 * r.d1 * r.d2 = _; rw [Int.one_mul, Int.one_mul]
 ·exact lq 0x2102101082b023b022 [m] [pr (r.lc2 t b), r.d1 * r.d2] hm ‹_›
theorem St3.pr2 (h : St3 m t b W r0 r L) (hm : m = 2) : pr L = r.d1 := by
 rcases h.form with ⟨_, rfl⟩ | ⟨_, _, rfl⟩
 ·exact lq 0x1201201083b022b022 [m] [pr (r.lc3 t b), r.d1] hm ‹_›
 ·show 1 * 1 * r.d1 = _; rw [Int.one_mul, Int.one_mul]
theorem St3.sh10 (h : St3 m t b W r0 r L) (hB : r.Bd SS UU Tb Tc) : ∃ r', St3 m t b W r0 r' (Bq L 1 0) ∧ r'.Bd SS UU (SS + SS * SS) Tc ∧ r'.d1 = r.d1 ∧ r'.d2 = r.d2 ∧ 2 * (r'.l10.natAbs : Int) ≤ r'.d1 ∧ (Bq L 1 0).sizes = L.sizes := by
 unfold Bq
 rw [h.g10, h.g1]
 split
 ·rename_i c
  exact Fb r h ⟨hB.p1, hB.p2, hB.p3, hB.s1, hB.s2, hB.s3, Wc hB.p1 hB.s1 hB.s2 c, hB.nc⟩ rfl rfl ⟨c, rfl⟩
 ·refine Fb _ h.s10 hB.s10 (Ms r _) (Mr r _) ⟨?_, rfl⟩
  rw [Jm]
  exact Hg hB.p1
theorem St3.sh20 (h : St3 m t b W r0 r L) (hm : m = 3) (hB : r.Bd SS UU Tb Tc) : ∃ r', St3 m t b W r0 r' (Bq L 2 0) ∧ r'.Bd SS UU Tb (Tc + SS) ∧ r'.d1 = r.d1 ∧ r'.d2 = r.d2 ∧ r'.d3 = r.d3 ∧ r'.l10 = r.l10 ∧ r'.l21 = r.l21 ∧ (Bq L 2 0).sizes = L.sizes := by
 unfold Bq
 split
 ·exact Gk r h (hB.mono (Int.le_refl _) (by unfold SS; exact lz 0x2220004fb0a060 [Tc])) rfl rfl rfl rfl rfl rfl
 ·exact Gk _ (h.s20 hm) hB.s20 (Qd r _) (Qc r _) (Qb r _) (R0 r _) (Ry r _) rfl
theorem St3.sh21 (h : St3 m t b W r0 r L) (hm : m = 3) (hB : r.Bd SS UU Tb Tc) (hT : 1 ≤ Tc) : ∃ r', St3 m t b W r0 r' (Bq L 2 1) ∧ r'.Bd SS UU Tb (2 * Tc + 2 * ((2 * (SS * (SS * Tc)) + 2) * Tb)) ∧ r'.d1 = r.d1 ∧ r'.d2 = r.d2 ∧ r'.d3 = r.d3 ∧ r'.l10 = r.l10 ∧ 2 * (r'.l21.natAbs : Int) ≤ r'.d2 ∧ (Bq L 2 1).sizes = L.sizes := by
 unfold Bq
 rw [h.g21 hm, h.g2]
 split
 ·rename_i c
  refine Gk r h (hB.mono (Int.le_refl _) ?_) rfl rfl rfl rfl c rfl
  have n0 : 0 ≤ Tb := Int.le_trans r.b.dot_nonneg hB.nb
  have := Int.mul_nonneg (show 0 ≤ 2 * (SS * (SS * Tc)) + 2 by unfold SS; exact lz 0x2100000008f22b020004f820004f828a0b601b61 [Tc] hT) n0
  exact lz 0x2422128028a0610b601b62 [Tc, (2 * (SS * (SS * Tc)) + 2) * Tb] hT this
 ·refine Gk _ (h.s21 hm) (hB.s21 hT) (Qa r _) (Mq r _) (P9 r _) (Rw r _) ?_ rfl
  rw [Rv, Mq]
  exact Hg hB.p2
theorem Z6 {d x t b : Int} (hd : 1 ≤ d) (h : x * d * b < d * d * t) : b * x < t * d := by
 rcases Int.lt_or_le (b * x) (t * d) with c | c
 ·exact c
 ·exfalso
  have := Int.mul_le_mul_of_nonneg_left c (show 0 ≤ d by exact o3 hd)
  have e1 : d * (t * d) = d * d * t := by grind
  have e2 : d * (b * x) = x * d * b := by grind
  exact lz 0x221220f0381283261074 [x * d * b, d * d * t, d * (t * d), d * (b * x)] h this e1 e2
theorem Fu {d x t b : Int} (hd : 1 ≤ d) (hb : 0 < b) (htb : t ≤ b) (h : b * x < t * d) : x < d := by
 rcases Int.lt_or_le x d with c | c
 ·exact c
 ·exfalso
  have h1 := Int.mul_le_mul_of_nonneg_left c (show 0 ≤ b by exact o32 hb)
  have h2 := Int.mul_le_mul_of_nonneg_right htb (show 0 ≤ d by exact o3 hd)
  exact lz 0x22220f2160261073 [b * x, t * d, b * d] h h1 h2
theorem St3.n1 (h : St3 m t b W r0 r L) (hB : r.Bd SS UU Tb Tc) (hu : Bw L 1 = false) : b * r.x1.d1 < t * r.d1 := by
 rw [h.u1, decide_eq_false_iff_not, Int.not_le] at hu
 refine Z6 hB.p1 ?_
 rw [Rk]
 rw [Int.mul_one] at hu
 exact hu
theorem St3.n2 (h : St3 m t b W r0 r L) (hm : m = 3) (hB : r.Bd SS UU Tb Tc) (hu : Bw L 2 = false) : b * r.x2.d2 < t * r.d2 := by
 rw [h.u2 hm, decide_eq_false_iff_not, Int.not_le] at hu
 refine Z6 hB.p2 ?_
 rw [Z5, Int.mul_comm r.d1]
 exact hu
end
section
variable {m : Nat} {t b W : Int} {rows0 : List (List Int)} {L : LC}
theorem H1.sh (g : H1 m t b W rows0 L) (hm : m ≤ 3) {k j : Nat} (hk : k < m) (hj : j < k) : Z1 L k j :=
 ⟨g.hb, hj, ln 0x22223e83fb001013b102 [k, m] hm hk, by rw [g.lp]; exact hk, by rw [g.lr]; exact hk, by rw [g.lpk k hk]; exact hj, by rw [g.lpk j (ln 0x22221012011212 [j, m, k] hk hj)]; exact Nat.le_refl _, by rw [g.ls]; exact ln 0x22221b1a1b0a12011212 [j, m, k] hk hj, g.pos _ (ln 0x22221b1a1b0a12011212 [j, m, k] hk hj), by rw [g.lrk k hk]; exact o71 hm⟩
theorem H1.up (g : H1 m t b W rows0 L) {k : Nat} (hk : k < m) (hk0 : 0 < k) : eO L k :=
 ⟨g.hb, hk0, by rw [g.lp]; exact hk, by rw [g.lpk k hk]; exact o24 hk0, by rw [g.ls]; exact o72 hk⟩
theorem H1.ex (g : H1 m t b W rows0 L) (hm : m ≤ 3) {k : Nat} (hk : k < m) (hk0 : 0 < k) : eR L k :=
 ⟨g.hb, hk0, by rw [g.lp]; exact hk, by rw [g.lp]; exact o71 hm, by rw [g.lr]; exact hk, g.lpk k hk, by rw [g.lpk (k - 1) (ln 0x222210121b0a21212 [k - 1, m, k] hk (lsc k 1 (ln 0x22201b000b11 [k] hk0)))]; exact ln 0x222223e83fb0021b0a21213b103 [k - 1, m, k] hm hk (lsc k 1 (ln 0x22201b000b11 [k] hk0)), fun i hi hi' => by rw [g.lp] at hi'; rw [g.lpk i hi']; exact hi, by rw [g.ls]; exact o72 hk,
  by have := g.pos k (o73 hk); exact o4 this, by have := g.pos (k + 1) (o72 hk); exact o4 this⟩
end
theorem Xh (n : Nat) : 2 * TT n + 2 * ((2 * (SS * (SS * TT n)) + 2) * TT n) + SS ≤ TT (n + 1) := by
 have h := Dm n
 have h1 := Int.mul_le_mul_of_nonneg_right (show 1 ≤ TT n by exact o19 h) (show 0 ≤ TT n by exact o48 h)
 show _ ≤ 1073741824 * (TT n * TT n)
 have e : (2 * (SS * (SS * TT n)) + 2) * TT n = 134217728 * (TT n * TT n) + 2 * TT n := by
  unfold SS; rw [Int.add_mul, show (2 : Int) * (8192 * (8192 * TT n)) = 134217728 * TT n by exact lz 0x22080000007f8020004f820004f82880 [TT n], Int.mul_assoc]
 rw [e]
 unfold SS
 exact lz 0x2600000008f5ffffff48f21400000008f820004fb028180000007f8a28028aa610186080000007fb62 [TT n, TT n * TT n] h h1
theorem K7 (n : Nat) : SS + SS * SS ≤ TT n := by have := Dm n; unfold SS; exact lz 0x222020004fb20004f820004fba6080000007fb61 [TT n] this
structure TB (t b : Int) : Prop where
 t0 : 0 < t
 tb : t ≤ b
 b9 : b ≤ 67108864
noncomputable def DI (m : Nat) (t b W : Int) (r0 : R3) (n : Nat) (L : LC) : Prop := ∃ r, St3 m t b W r0 r L ∧ r.Bd SS UU (TT n) (TT n)
section
variable {m : Nat} {t b W : Int} {r0 : R3} {L : LC} {n : Nat} (B : TB t b)
include B
theorem DI.good (h : DI m t b W r0 n L) (hn : n ≤ 13) (hf : m = 2 → r0.flat) : H1 m t b W (r0.rw m) L := by
 refine zEA h fun r h1 h2 => ?_
 have := B.t0; have := B.tb; have := B.b9
 exact h1.good h2 (C4 hn) (C4 hn) hf (o30 ‹_› ‹_› this) (o31 ‹_› ‹_› this)
omit B in
theorem DI.short (h : DI m t b W r0 n L) {k j : Nat} (hm : m = 2 ∨ m = 3) (hk : k < m) (hj : j < k) : DI m t b W r0 (n + 1) (Bq L k j) ∧ (Bq L k j).sizes = L.sizes := by
 refine zEA h fun r h1 h2 => ?_
 have m1 := K6 n
 have m0 := Dm n
 have hc : (k = 1 ∧ j = 0) ∨ (k = 2 ∧ j = 0 ∧ m = 3) ∨ (k = 2 ∧ j = 1 ∧ m = 3) := by lia
 rcases hc with ⟨rfl, rfl⟩ | ⟨rfl, rfl, e⟩ | ⟨rfl, rfl, e⟩
 ·refine Mk (h1.sh10 h2) fun r' a1 a2 _ _ _ a3 => ?_
  exact ⟨(iEA r' a1 (a2.mono (K7 _) (by unfold SS at m1; exact o20 m1))), a3⟩
 ·(refine Ek (h1.sh20 e h2) fun r' a1 a2 _ _ _ _ zq0 => ?_; refine zA zq0 fun _ a3 => ?_)
  exact ⟨(iEA r' a1 (a2.mono (by unfold SS at m1; exact o20 m1) m1)), a3⟩
 ·(refine Ek (h1.sh21 e h2 (o19 m0)) fun r' a1 a2 _ _ _ _ zq0 => ?_; refine zA zq0 fun _ a3 => ?_)
  exact ⟨(iEA r' a1 (a2.mono (by unfold SS at m1; exact o20 m1) (Hz n))), a3⟩
theorem DI.exch (h : DI m t b W r0 n L) {k : Nat} (hm : m = 2 ∨ m = 3) (hk : k < m) (hk0 : 0 < k) (hu : Bw L k = false) :
  DI m t b W r0 (n + 1) (exL L k) ∧ b * gt (exL L k).sizes k < t * gt L.sizes k ∧ b * pr (exL L k) ≤ t * pr L := by
 refine zEA h fun r h1 h2 => ?_
 have m1 := K6 n
 have m0 := Dm n
 have b0 : 0 < b := by have := B.t0; have := B.tb; exact o50 ‹_› this
 have p1 := h2.p1
 have p2 := h2.p2
 have hc : k = 1 ∨ (k = 2 ∧ m = 3) := by lia
 rcases hc with rfl | ⟨rfl, e⟩
 ·have q := h1.n1 h2 hu
  have lt := Fu h2.p1 b0 B.tb q
  have s := h1.x1 h2
  refine ⟨(iEA _ s ((h2.x1 (o51 lt) (by unfold SS; exact lz 0x222020004fb6080000007fb61 [TT n] m0)).mono (by unfold SS at m1; exact o20 m1) (by unfold SS at m1; exact o20 m1))), by rw [s.g1, h1.g1]; exact q, ?_⟩
  rcases hm with e | e
  ·rw [s.pr2 e, h1.pr2 e]; exact lz 0x2221061071 [b * r.x1.d1, t * r.d1] q
  ·rw [s.pr3 e, h1.pr3 e, Jz]
   have := Int.mul_le_mul_of_nonneg_right (Int.le_of_lt q) (show 0 ≤ r.d2 by exact o3 p2)
   rw [← Int.mul_assoc, ← Int.mul_assoc]; exact this
 ·have q := h1.n2 e h2 hu
  have lt := Fu h2.p2 b0 B.tb q
  have s := h1.x2 e h2
  refine ⟨(iEA _ s ((h2.x2 (o51 lt)).mono (by unfold SS at m1; exact o20 m1) (by unfold SS at m1; exact o20 m1))), by rw [s.g2, h1.g2]; exact q, ?_⟩
  rw [s.pr3 e, h1.pr3 e, Uu]
  have := Int.mul_le_mul_of_nonneg_left (Int.le_of_lt q) (show 0 ≤ r.d1 by exact o3 p1)
  have e1 : r.d1 * (b * r.x2.d2) = b * (r.d1 * r.x2.d2) := by grind
  have e2 : r.d1 * (t * r.d2) = t * (r.d1 * r.d2) := by grind
  rw [← e1, ← e2]; exact this
end
structure RI (m : Nat) (t b W : Int) (r0 : R3) (D1 D2 : Int) (w k : Nat) (L : LC) (r : R3) (Tb Tc : Int) : Prop where
 st : St3 m t b W r0 r L
 bd : r.Bd SS UU Tb Tc
 d1 : r.d1 ≤ D1
 d2 : r.d2 ≤ D2
 we : w = 4 * (r.d1 + r.d2).toNat + (3 - k)
 km : k ≤ m
 tb : Tb ≤ TT 13
 tc : Tc ≤ TT 13
 tc2 : k ≤ 2 → Tc ≤ TT 12
 tb2 : k = 0 ∨ k = 2 → Tb ≤ TT 12
 f2 : 2 ≤ k → 2 * (r.l10.natAbs : Int) ≤ r.d1 ∧ r.d1 * r.d1 * t ≤ (r.d2 * 1 + r.l10 * r.l10) * b
 f3 : 3 ≤ k → 2 * (r.l21.natAbs : Int) ≤ r.d2 ∧ r.d2 * r.d2 * t ≤ (r.d3 * r.d1 + r.l21 * r.l21) * b
noncomputable def RJ (m : Nat) (t b W : Int) (r0 : R3) (D1 D2 : Int) (w k : Nat) (L : LC) : Prop := ∃ r Tb Tc, RI m t b W r0 D1 D2 w k L r Tb Tc
section
variable {m : Nat} {t b W D1 D2 : Int} {r0 r : R3} {L : LC} {w k : Nat} {Tb Tc : Int} (B : TB t b)
include B
theorem RI.good (h : RI m t b W r0 D1 D2 w k L r Tb Tc) (hf : m = 2 → r0.flat) : H1 m t b W (r0.rw m) L := by
 have := B.t0; have := B.tb; have := B.b9
 exact h.st.good h.bd h.tb h.tc hf (o30 ‹_› ‹_› this) (o31 ‹_› ‹_› this)
theorem V0 (hm : m = 2 ∨ m = 3) (hf : m = 2 → r0.flat) (h : RJ m t b W r0 D1 D2 w k L) (hk : k < L.rows.length) : N5 (RJ m t b W r0 D1 D2) w k L := by
 refine Ha h fun r Tb Tc h => ?_
 have g := h.good B hf
 have b0 : 0 < b := by have := B.t0; have := B.tb; exact o50 ‹_› this
 have ts : (t.natAbs : Int) ≤ 67108864 := by have := B.t0; have := B.tb; have := B.b9; exact lq 0x2222240000007fb0e600e840000007fb161063 [t.natAbs] [t, b] ‹_› this (lnn t (lz 0x22200b600b71 [t] ‹_›))
 have bs : (b.natAbs : Int) ≤ 67108864 := by have := B.b9; exact lq 0x222240000007fb0e600e840000007fb062 [b.natAbs] [b] this (lnn b (lz 0x22200b600b71 [b] b0))
 have hkm : k < m := by rw [← g.lr]; exact hk
 have m3 : m ≤ 3 := by exact Or.elim hm (fun zt2 => ln 0x2223b002b021 [m] zt2) (fun zt2 => ln 0x2223b003b021 [m] zt2)
 have p1 := h.bd.p1
 have p2 := h.bd.p2
 have hc : k = 0 ∨ k = 1 ∨ (k = 2 ∧ m = 3) := by lia
 refine { parts := by rw [g.lp, g.lr], r9 := by rw [g.lr]; exact o71 m3, sh := fun hk0 => g.sh m3 hkm (o24 hk0), up := ?_, ex := ?_, dn := ?_ }
 ·intro hk0
  rcases hc with rfl | rfl | ⟨rfl, e⟩
  ·exact False.elim (lz 0x220f0b0b11 [] hk0)
  ·refine A6 (h.st.sh10 h.bd) fun r' a1 a2 _ => ?_
   exact (a1.good a2 (K7 _) h.tc hf ts bs).up hkm (by omega)
  ·refine A6 (h.st.sh21 e (h.bd.mono (h.tb2 (.inr rfl)) (h.tc2 (o52))) (by have := Dm 12; exact o19 this)) fun r' a1 a2 _ => ?_
   exact (a1.good a2 (C4 (by decide)) (Hz 12) hf ts bs).up hkm (by omega)
 ·intro hk0 hu
  rcases hc with rfl | rfl | ⟨rfl, e⟩
  ·exact ⟨False.elim (lz 0x220f0b0b11 [] hk0), False.elim (lz 0x220f0b0b11 [] hk0)⟩
  ·refine Mk (h.st.sh10 h.bd) fun r' a1 a2 a3 a4 a5 a6 => ?_
   have hu : Bw (Bq L 1 0) 1 = false := hu
   refine ⟨(a1.good a2 (K7 _) h.tc hf ts bs).ex m3 hkm (by omega), iEA (4 * (r'.x1.d1 + r'.x1.d2).toNat + 2) ?_ (Hk r'.x1 (SS + SS * SS) Tc ?_)⟩
   ·have q := Fu a2.p1 b0 B.tb (a1.n1 a2 hu)
    have q0 := Uv a2.p1 a2.p2
    rw [h.we, Jz]; exact lq 0x217888822148a2b048a13b1b2a231a1e824a0e80473281086 [(r'.x1.d1 + r'.d2).toNat, (r.d1 + r.d2).toNat, 3 - 1] [r'.d1, r.d1, r'.d2, r.d2, r'.x1.d1] a3 a4 q (ltn (r'.x1.d1 + r'.d2) (lz 0x2212210a0b601b621821b63 [r'.x1.d1, r'.d2, r.d2] p2 a4 q0)) (ltn (r.d1 + r.d2) (lz 0x22222210a0b631b623702811b64 [r.d1, r.d2, r'.d1, r'.x1.d1] p2 a3 q q0)) (lsc 3 1 (lz 0x223b1b00 []))
   ·have q := Fu a2.p1 b0 B.tb (a1.n1 a2 hu)
    exact { st := a1.x1 a2, bd := a2.x1 (o51 q) (by unfold SS; exact lz 0x2220004fb20004f820004fba20004fb60 []), d1 := by have := h.d1; exact lz 0x222221061362073283 [r'.x1.d1, D1, r'.d1, r.d1] a3 q this, d2 := by rw [Jz]; have := h.d2; exact lz 0x22221061262082 [r'.d2, D2, r.d2] a4 this, we := rfl, km := by show 1 ≤ m; exact ln 0x22201b001b11 [m] hkm, tb := K7 _, tc := h.tc, tc2 := fun _ => h.tc2 ‹_›, tb2 := fun _ => K7 _, f2 := fun z => by have : (2 : Nat) ≤ 1 := z; exact ⟨lq 0x22000e2861b2b01 [r'.x1.l10.natAbs] [r'.x1.d1] this, lz 0x2201061b2b01 [r'.x1.d1 * r'.x1.d1 * t, (r'.x1.d2 * 1 + r'.x1.l10 * r'.x1.l10) * b] this⟩, f3 := fun z => by have : (3 : Nat) ≤ 1 := z; (exact ⟨lq 0x22000e2861b3b01 [r'.x1.l21.natAbs] [r'.x1.d2] this, lz 0x2201061b3b01 [r'.x1.d2 * r'.x1.d2 * t, (r'.x1.d3 * r'.x1.d1 + r'.x1.l21 * r'.x1.l21) * b] this⟩) }
  ·(refine Ek (h.st.sh21 e (h.bd.mono (h.tb2 (.inr rfl)) (h.tc2 (o52))) (by have := Dm 12; exact o19 this)) fun r' a1 a2 a3 a4 a5 a6 zq0 => ?_; refine zA zq0 fun a7 _ => ?_)
   have hu : Bw (Bq L 2 1) 2 = false := hu
   have q := Fu a2.p2 b0 B.tb (a1.n2 e a2 hu)
   refine ⟨(a1.good a2 (C4 (by decide)) (Hz 12) hf ts bs).ex m3 hkm (by omega), iEA (4 * (r'.x2.d1 + r'.x2.d2).toNat + 2) ?_ (Hk r'.x2 (TT 13) (TT 12) ?_)⟩
   ·have q0 : 1 ≤ r'.x2.d2 := a2.e2p
    rw [h.we, Uu]; exact gE p1 p2 a3 a4 q
   ·exact { st := a1.x2 e a2, bd := (a2.x2 (o51 q)).mono (Hz 12) (Int.le_refl _), d1 := by rw [Uu]; have := h.d1; exact lz 0x22221061262082 [r'.d1, D1, r.d1] a3 this, d2 := by have := h.d2; exact lz 0x222221061362073283 [r'.x2.d2, D2, r'.d2, r.d2] a4 q this, we := rfl, km := by show 1 ≤ m; exact ln 0x21201b03b021 [m] e, tb := Int.le_refl _, tc := C4 (by decide), tc2 := fun _ => Int.le_refl _, tb2 := fun z => by have : (1 : Nat) = 0 ∨ (1 : Nat) = 2 := z; exact Or.elim this (fun zt2 => lz 0x2201060b1b21 [TT 13, TT 12] zt2) (fun zt2 => lz 0x2101062b1b21 [TT 13, TT 12] zt2), f2 := fun z => by have : (2 : Nat) ≤ 1 := z; exact ⟨lq 0x22000e2861b2b01 [r'.x2.l10.natAbs] [r'.x2.d1] this, lz 0x2201061b2b01 [r'.x2.d1 * r'.x2.d1 * t, (r'.x2.d2 * 1 + r'.x2.l10 * r'.x2.l10) * b] this⟩, f3 := fun z => by have : (3 : Nat) ≤ 1 := z; (exact ⟨lq 0x22000e2861b3b01 [r'.x2.l21.natAbs] [r'.x2.d2] this, lz 0x2201061b3b01 [r'.x2.d2 * r'.x2.d2 * t, (r'.x2.d3 * r'.x2.d1 + r'.x2.l21 * r'.x2.l21) * b] this⟩) }
 ·intro hu
  rcases hc with rfl | rfl | ⟨rfl, e⟩
  ·refine ⟨fun t ht => by exact False.elim (ln 0x220f0b2b0a21 [0 - 2] (lsc 0 2 (ln 0x22200b2b00110b022 [0 - 1, t] (lsz 0 1 (lz 0x221b0b00 [])) ht))), iEA (w - 1) (by rw [h.we]; exact ln 0x2222148a012148a1b0a21 [4 * (r.d1 + r.d2).toNat + (3 - 0) - 1, (r.d1 + r.d2).toNat, 3 - 0] (lsc (4 * (r.d1 + r.d2).toNat + (3 - 0)) 1 (ln 0x2121048a1b03b0b1a21 [(r.d1 + r.d2).toNat, 3 - 0] (lsc 3 0 (lz 0x223b0b00 []))))) (Hk r Tb Tc ?_)⟩
   exact { st := h.st, bd := h.bd, d1 := h.d1, d2 := h.d2, we := by rw [h.we]; rfl, km := by assumption, tb := h.tb, tc := h.tc, tc2 := fun _ => h.tc2 (lz 0x222b0b00 []), tb2 := fun _ => h.tb2 (.inl rfl), f2 := fun z => by exact ⟨lq 0x22000e2861b0ba2b01 [r.l10.natAbs] [r.d1] z, lz 0x2201061b0ba2b01 [r.d1 * r.d1 * t, (r.d2 * 1 + r.l10 * r.l10) * b] z⟩, f3 := fun z => by (exact ⟨lq 0x22000e2861b0ba3b01 [r.l21.natAbs] [r.d2] z, lz 0x2201061b0ba3b01 [r.d2 * r.d2 * t, (r.d3 * r.d1 + r.l21 * r.l21) * b] z⟩) }
  ·refine Mk (h.st.sh10 h.bd) fun r' a1 a2 a3 a4 a5 a6 => ?_
   have hu : Bw (Bq L 1 0) 1 = true := hu.resolve_left (by decide)
   refine ⟨fun t ht => by exact False.elim (ln 0x220f1b2b0a21 [1 - 2] (lsc 1 2 (ln 0x22201b2b00111b1b0a22 [1 - 1, t] (lsc 1 1 (lz 0x221b1b00 [])) ht))), iEA (w - 1) (by rw [h.we]; exact ln 0x2222148a012148a1b0a21 [4 * (r.d1 + r.d2).toNat + (3 - 1) - 1, (r.d1 + r.d2).toNat, 3 - 1] (lsc (4 * (r.d1 + r.d2).toNat + (3 - 1)) 1 (ln 0x2121048a1b03b1b1a21 [(r.d1 + r.d2).toNat, 3 - 1] (lsc 3 1 (lz 0x223b1b00 []))))) (Hk r' (SS + SS * SS) Tc ?_)⟩
   exact { st := a1, bd := a2, d1 := by rw [a3]; exact h.d1, d2 := by rw [a4]; exact h.d2, we := by rw [h.we, a3, a4]; rfl, km := by assumption, tb := K7 _, tc := h.tc, tc2 := fun _ => h.tc2 (lz 0x222b1b00 []), tb2 := fun _ => K7 _, f2 := fun _ => ⟨a5, by rw [a1.u1, decide_eq_true_eq] at hu; exact hu⟩, f3 := fun z => by (exact ⟨lq 0x22000e2861b1ba3b01 [r'.l21.natAbs] [r'.d2] z, lz 0x2201061b1ba3b01 [r'.d2 * r'.d2 * t, (r'.d3 * r'.d1 + r'.l21 * r'.l21) * b] z⟩) }
  ·(refine Ek (h.st.sh21 e (h.bd.mono (h.tb2 (.inr rfl)) (h.tc2 (o52))) (by have := Dm 12; exact o19 this)) fun r' a1 a2 a3 a4 a5 a6 zq0 => ?_; refine zA zq0 fun a7 _ => ?_)
   have hu : Bw (Bq L 2 1) 2 = true := hu.resolve_left (by decide)
   have g1 := a1.good a2 (C4 (by decide)) (Hz 12) hf ts bs
   (refine Ek (a1.sh20 e a2) fun r2 c1 c2 c3 c4 c5 c6 zq0 => ?_; refine zA zq0 fun c7 _ => ?_)
   refine ⟨fun t ht => ?_, iEA (w - 1) (by rw [h.we]; exact ln 0x2222148a012148a1b0a21 [4 * (r.d1 + r.d2).toNat + (3 - 2) - 1, (r.d1 + r.d2).toNat, 3 - 2] (lsc (4 * (r.d1 + r.d2).toNat + (3 - 2)) 1 (ln 0x2121048a1b03b2b1a21 [(r.d1 + r.d2).toNat, 3 - 2] (lsc 3 2 (lz 0x223b2b00 []))))) (Hk r2 (TT 12) (2 * TT 12 + 2 * ((2 * (SS * (SS * TT 12)) + 2) * TT 12) + SS) ?_)⟩
   ·obtain rfl : t = 0 := by exact ln 0x22220b022b1b1a21012 [t, 2 - 1] ht (lsc 2 1 (lz 0x222b1b00 []))
    exact g1.sh m3 hkm (ln 0x22222b012b2b1a210b0a22 [2 - 2 - 0, 2 - 2] (lsc (2 - 2) 0 (ln 0x21200b02b2b0a21 [2 - 2] (lsc 2 2 (lz 0x222b2b00 [])))) (lsc 2 2 (lz 0x222b2b00 [])))
   ·have ff := h.f2 (o52)
    exact { st := c1, bd := c2, d1 := by rw [c3, a3]; exact h.d1, d2 := by rw [c4, a4]; exact h.d2, we := by rw [h.we, c3, c4, a3, a4]; rfl, km := by assumption, tb := C4 (by decide), tc := Xh 12, tc2 := fun z => by exact lz 0x22002128028aa62b1b2ba01 [TT 12, (2 * (SS * (SS * TT 12)) + 2) * TT 12, SS] z, tb2 := fun z => by exact lz 0x220060 [TT 12], f2 := fun _ => by rw [c6, c3, c4, a3, a4, a6]; exact ff, f3 := fun _ => ⟨by rw [c7, c4]; exact a7, by rw [a1.u2 e, decide_eq_true_eq] at hu; rw [c7, c3, c4, c5]; exact hu⟩ }
end
section
variable {m : Nat} {t b W D1 D2 : Int} {r0 r : R3} {L L' : LC} {n w k : Nat} {Tb Tc : Int} (B : TB t b)
theorem Ta (h : DI m t b W r0 n L) (hn : n ≤ 12) : ∃ D1 D2, (∃ w, RJ m t b W r0 D1 D2 w 0 L) ∧ (m = 3 → pr L = D1 * D2) ∧ (m = 2 → pr L = D1) := by
 refine zEA h fun r h1 h2 => ?_
 refine Ba r.d1 r.d2 (Sc _ r (TT n) (TT n) ({ st := h1, bd := h2, d1 := Int.le_refl _, d2 := Int.le_refl _, we := rfl, km := Nat.zero_le _, tb := C4 (o74 hn), tc := C4 (o74 hn), tc2 := fun _ => C4 hn, tb2 := fun _ => C4 hn, f2 := fun z => ?_, f3 := fun z => ?_ })) (fun e => h1.pr3 e) (fun e => h1.pr2 e)
 ·have z : (2 : Nat) ≤ 0 := z; exact ⟨lq 0x22000e2860b2b01 [r.l10.natAbs] [r.d1] ‹_›, lz 0x2201060b2b01 [r.d1 * r.d1 * t, (r.d2 * 1 + r.l10 * r.l10) * b] ‹_›⟩
 ·have z : (3 : Nat) ≤ 0 := z; exact ⟨lq 0x22000e2860b3b01 [r.l21.natAbs] [r.d2] ‹_›, lz 0x2201060b3b01 [r.d2 * r.d2 * t, (r.d3 * r.d1 + r.l21 * r.l21) * b] ‹_›⟩
include B in
theorem Yi (hm : m = 2 ∨ m = 3) (hf : m = 2 → r0.flat) (h : RJ m t b W r0 D1 D2 w k L') (hk : L'.rows.length ≤ k) (h3 : m = 3 → pr L = D1 * D2) (h2 : m = 2 → pr L = D1) :
  H1 m t b W (r0.rw m) L' ∧ pr L' ≤ pr L ∧ ∀ i, 1 ≤ i → i < m → 2 * ((gt (gl L'.parts i) (i - 1)).natAbs : Int) ≤ gt L'.sizes i ∧
   t * gt L'.sizes i * gt L'.sizes i ≤ b * (gt L'.sizes (i + 1) * gt L'.sizes (i - 1) + gt (gl L'.parts i) (i - 1) * gt (gl L'.parts i) (i - 1)) := by
 refine Ha h fun r Tb Tc h => ?_
 have g := h.good B hf
 rw [g.lr] at hk
 have p1 := h.bd.p1
 have p2 := h.bd.p2
 have o : gt L'.sizes 0 = 1 := by rcases h.st.form with ⟨_, rfl⟩ | ⟨_, _, rfl⟩ <;> rfl
 refine ⟨g, ?_, fun i hi him => ?_⟩
 ·rcases hm with e | e
  ·rw [h.st.pr2 e, h2 e]; exact h.d1
  ·rw [h.st.pr3 e, h3 e]; exact Cv h.d1 h.d2 (o3 p2) (by have := h.d1; exact lz 0x222200b601611b62 [D1, r.d1] p1 this)
 ·have hc : i = 1 ∨ (i = 2 ∧ m = 3) := by lia
  rcases hc with rfl | ⟨rfl, e⟩
  ·refine zA (h.f2 (ln 0x222202b011b10102 [k, m] hk him)) fun a1 a2 => ?_
   show 2 * ((gt (gl L'.parts 1) 0).natAbs : Int) ≤ gt L'.sizes 1 ∧ t * gt L'.sizes 1 * gt L'.sizes 1 ≤ b * (gt L'.sizes 2 * gt L'.sizes 0 + gt (gl L'.parts 1) 0 * gt (gl L'.parts 1) 0)
   rw [o, h.st.g1, h.st.g2, h.st.g10]
   refine ⟨a1, ?_⟩
   have e1 : t * r.d1 * r.d1 = r.d1 * r.d1 * t := by grind
   rw [e1, Int.mul_comm b]; exact a2
  ·refine zA (h.f3 (ln 0x212203b03b120102 [k, m] hk e)) fun a1 a2 => ?_
   show 2 * ((gt (gl L'.parts 2) 1).natAbs : Int) ≤ gt L'.sizes 2 ∧ t * gt L'.sizes 2 * gt L'.sizes 2 ≤ b * (gt L'.sizes 3 * gt L'.sizes 1 + gt (gl L'.parts 2) 1 * gt (gl L'.parts 2) 1)
   rw [h.st.g1, h.st.g2, h.st.g3 e, h.st.g21 e]
   refine ⟨a1, ?_⟩
   have e1 : t * r.d2 * r.d2 = r.d2 * r.d2 * t := by grind
   rw [e1, Int.mul_comm b]; exact a2
end
structure V3.Sm (u : V3) : Prop where
 x : (u.x.natAbs : Int) ≤ 5
 y : (u.y.natAbs : Int) ≤ 5
 z : (u.z.natAbs : Int) ≤ 5
structure R3.Sm (r : R3) : Prop where
 a : r.a.Sm
 b : r.b.Sm
 c : r.c.Sm
theorem Cf {x y X Y : Int} (h1 : (x.natAbs : Int) ≤ X) (h2 : (y.natAbs : Int) ≤ Y) : ((x * y).natAbs : Int) ≤ X * Y := by
 rw [Int.natAbs_mul, Int.natCast_mul]
 exact Cv h1 h2 (o23) (lq 0x22200b600e61 [x.natAbs] [X] h1)
theorem Hx {x y X Y : Int} (h1 : (x.natAbs : Int) ≤ X) (h2 : (y.natAbs : Int) ≤ Y) : ((x - y).natAbs : Int) ≤ X + Y := by exact lnl (lq 0x22222232a10c61e1d60e0631e620e64 [x.natAbs, y.natAbs] [x, y, X, Y] h1 h2 (lna x) (lnb y)) (lq 0x22222232a10cd61e160e0d631e620e64 [x.natAbs, y.natAbs] [x, y, X, Y] h1 h2 (lnb x) (lna y))
theorem V3.Sm.dot {u v : V3} (h : u.Sm) (h' : v.Sm) : ((u.dot v).natAbs : Int) ≤ 75 := by
 have h1 := Cf h.x h'.x; have h2 := Cf h.y h'.y; have h3 := Cf h.z h'.z
 unfold V3.dot; exact lnl (lq 0x222222224b2fb210aa62e261e160e065b582e65b581e65b580e66 [(u.x * v.x).natAbs, (u.y * v.y).natAbs, (u.z * v.z).natAbs] [u.x * v.x, u.y * v.y, u.z * v.z] h1 h2 h3 (lna (u.x * v.x)) (lna (u.y * v.y)) (lna (u.z * v.z))) (lq 0x222222224b2fb210aad62e2d61e1d60e0d65b582e65b581e65b580e66 [(u.x * v.x).natAbs, (u.y * v.y).natAbs, (u.z * v.z).natAbs] [u.x * v.x, u.y * v.y, u.z * v.z] h1 h2 h3 (lnb (u.x * v.x)) (lnb (u.y * v.y)) (lnb (u.z * v.z)))
section
variable {r : R3} (h : r.Sm)
include h
theorem Vx : (r.d1.natAbs : Int) ≤ 75 := h.a.dot h.a
theorem Vv : (r.l10.natAbs : Int) ≤ 75 := h.b.dot h.a
theorem aQ : (r.l20.natAbs : Int) ≤ 75 := h.c.dot h.a
theorem Vw : (r.d2.natAbs : Int) ≤ 11250 := Hx (X := 5625) (Y := 5625) (Cf (h.a.dot h.a) (h.b.dot h.b)) (Cf (h.b.dot h.a) (h.b.dot h.a))
theorem dA : (r.e2.natAbs : Int) ≤ 11250 := Hx (X := 5625) (Y := 5625) (Cf (h.a.dot h.a) (h.c.dot h.c)) (Cf (h.c.dot h.a) (h.c.dot h.a))
theorem aO : (r.l21.natAbs : Int) ≤ 11250 := Hx (X := 5625) (Y := 5625) (Cf (h.a.dot h.a) (h.c.dot h.b)) (Cf (h.c.dot h.a) (h.b.dot h.a))
theorem Pz : (r.det.natAbs : Int) ≤ 750 := by
 have q : ∀ {x y z u v : Int}, (x.natAbs : Int) ≤ 5 → (y.natAbs : Int) ≤ 5 → (z.natAbs : Int) ≤ 5 → (u.natAbs : Int) ≤ 5 → (v.natAbs : Int) ≤ 5 → ((x * (y * z - u * v)).natAbs : Int) ≤ 250 :=
  fun h1 h2 h3 h4 h5 => Cf (Y := 50) h1 (Hx (X := 25) (Y := 25) (Cf h2 h3) (Cf h4 h5))
 have h1 := q h.a.x h.b.y h.c.z h.b.z h.c.y
 have h2 := q h.a.y h.b.x h.c.z h.b.z h.c.x
 have h3 := q h.a.z h.b.x h.c.y h.b.y h.c.x
 unfold R3.det
 exact lnl (lq 0x222222222ee3fb210ca62e261e1d60e06fa2fb2e6fa2fb1e6fa2fb0e66 [(r.a.x * (r.b.y * r.c.z - r.b.z * r.c.y)).natAbs, (r.a.y * (r.b.x * r.c.z - r.b.z * r.c.x)).natAbs, (r.a.z * (r.b.x * r.c.y - r.b.y * r.c.x)).natAbs] [r.a.x * (r.b.y * r.c.z - r.b.z * r.c.y), r.a.y * (r.b.x * r.c.z - r.b.z * r.c.x), r.a.z * (r.b.x * r.c.y - r.b.y * r.c.x)] h1 h2 h3 (lna (r.a.x * (r.b.y * r.c.z - r.b.z * r.c.y))) (lnb (r.a.y * (r.b.x * r.c.z - r.b.z * r.c.x))) (lna (r.a.z * (r.b.x * r.c.y - r.b.y * r.c.x)))) (lq 0x222222222ee3fb210cad62e2d61e160e0d6fa2fb2e6fa2fb1e6fa2fb0e66 [(r.a.x * (r.b.y * r.c.z - r.b.z * r.c.y)).natAbs, (r.a.y * (r.b.x * r.c.z - r.b.z * r.c.x)).natAbs, (r.a.z * (r.b.x * r.c.y - r.b.y * r.c.x)).natAbs] [r.a.x * (r.b.y * r.c.z - r.b.z * r.c.y), r.a.y * (r.b.x * r.c.z - r.b.z * r.c.x), r.a.z * (r.b.x * r.c.y - r.b.y * r.c.x)] h1 h2 h3 (lnb (r.a.x * (r.b.y * r.c.z - r.b.z * r.c.y))) (lna (r.a.y * (r.b.x * r.c.z - r.b.z * r.c.x))) (lnb (r.a.z * (r.b.x * r.c.y - r.b.y * r.c.x))))
theorem dB : (r.d3.natAbs : Int) ≤ 562500 := Cf (Pz h) (Pz h)
end
theorem Mc (r : R3) : 0 ≤ r.d1 := r.a.dot_nonneg
theorem Tx (r : R3) : 0 ≤ r.d2 := by
 have e : r.d2 = (r.a.x * r.b.y - r.a.y * r.b.x) * (r.a.x * r.b.y - r.a.y * r.b.x) + (r.a.x * r.b.z - r.a.z * r.b.x) * (r.a.x * r.b.z - r.a.z * r.b.x) + (r.a.y * r.b.z - r.a.z * r.b.y) * (r.a.y * r.b.z - r.a.z * r.b.y) := by
  simp only [R3.d2, V3.dot]; grind
 have h1 := sq0 (r.a.x * r.b.y - r.a.y * r.b.x); have h2 := sq0 (r.a.x * r.b.z - r.a.z * r.b.x); have h3 := sq0 (r.a.y * r.b.z - r.a.z * r.b.y)
 exact lz 0x22221200b630b620b610b6321aa084 [r.d2, (r.a.x * r.b.y - r.a.y * r.b.x) * (r.a.x * r.b.y - r.a.y * r.b.x), (r.a.x * r.b.z - r.a.z * r.b.x) * (r.a.x * r.b.z - r.a.z * r.b.x), (r.a.y * r.b.z - r.a.z * r.b.y) * (r.a.y * r.b.z - r.a.z * r.b.y)] e h1 h2 h3
theorem G4 {x : Int} (h : x * x = 0) : x = 0 := by have := Fy x; exact lq 0x2222202220b080e060e0d610e60b184 [x.natAbs] [x, x * x] h this (lnb x) (lna x)
theorem Sk {r : R3} (h : r.d1 = 0) : r.det = 0 := by
 have h1 := sq0 r.a.x; have h2 := sq0 r.a.y; have h3 := sq0 r.a.z
 have e : r.d1 = r.a.x * r.a.x + r.a.y * r.a.y + r.a.z * r.a.z := rfl
 have x := G4 (show r.a.x * r.a.x = 0 by exact lz 0x2021220220b08320aa1830b620b600b60b185 [r.a.x * r.a.x, r.d1, r.a.y * r.a.y, r.a.z * r.a.z] h h1 h2 h3 e)
 have y := G4 (show r.a.y * r.a.y = 0 by exact lz 0x20021202220b08302aa1830b600b620b60b185 [r.a.y * r.a.y, r.d1, r.a.x * r.a.x, r.a.z * r.a.z] h h1 h2 h3 e)
 have z := G4 (show r.a.z * r.a.z = 0 by exact lz 0x200021022220b08032aa1800b630b620b60b185 [r.a.z * r.a.z, r.d1, r.a.x * r.a.x, r.a.y * r.a.y] h h1 h2 h3 e)
 unfold R3.det
 rw [x, y, z, Int.zero_mul, Int.zero_mul, Int.zero_mul]; rfl
theorem Zk {r : R3} (h1 : r.d1 ≠ 0) (h : r.d2 = 0) : r.det = 0 := by
 have e := r.syl
 rw [h, Int.zero_mul] at e
 have p := Mc r
 have q := sq0 r.l21
 have s : 0 ≤ r.d3 := sq0 r.det
 have s2 := Int.mul_le_mul_of_nonneg_right (show 1 ≤ r.d1 by exact lz 0x22201b600b71 [r.d1] (Int.lt_iff_le_and_ne.mpr ⟨lz 0x22200b600b61 [r.d1] p, (Ne.symm h1)⟩)) s
 exact G4 (show r.det * r.det = 0 by have : r.d3 = r.det * r.det := rfl; exact lz 0x2020021202120b080381318630b620b621a0b85 [r.det * r.det, r.d1 * r.d3, r.l21 * r.l21, r.d3] e q s s2 this)
theorem O5 {r : R3} (h : r.Sm) (h1 : r.d1 ≠ 0) (h2 : r.d2 ≠ 0) (h3 : r.det ≠ 0) : r.Bd SS UU (TT 0) (TT 0) := by
 have p1 := Mc r
 have p2 := Tx r
 have p3 : 0 ≤ r.d3 := sq0 r.det
 have p4 : r.d3 ≠ 0 := fun e => h3 (G4 e)
 have a1 := Vx h; have a2 := Vw h; have a3 := dB h
 have b1 := h.b.dot h.b; have b2 := h.c.dot h.c
 have t0 := Dm 0
 have c1 := Cv (show r.d1 ≤ 75 by exact lq 0x22224b2fb060e064b2fb0e62 [r.d1.natAbs] [r.d1] a1 (@Int.le_natAbs r.d1)) (show r.b.dot r.b ≤ 75 by exact lq 0x22224b2fb060e064b2fb0e62 [(r.b.dot r.b).natAbs] [r.b.dot r.b] b1 (@Int.le_natAbs (r.b.dot r.b))) r.b.dot_nonneg (by decide)
 have c2 : r.d2 = r.d1 * r.b.dot r.b - r.l10 * r.l10 := rfl
 have c3 := sq0 r.l10
 exact ⟨lz 0x22201b600b71 [r.d1] (Int.lt_iff_le_and_ne.mpr ⟨lz 0x22200b600b61 [r.d1] p1, (Ne.symm h1)⟩), lz 0x22201b600b71 [r.d2] (Int.lt_iff_le_and_ne.mpr ⟨lz 0x22200b600b61 [r.d2] p2, (Ne.symm h2)⟩), lz 0x22201b600b71 [r.d3] (Int.lt_iff_le_and_ne.mpr ⟨lz 0x22200b600b61 [r.d3] p3, (Ne.symm p4)⟩), by unfold SS; exact lq 0x222220004fb060e064b2fb0e62 [r.d1.natAbs] [r.d1] a1 (@Int.le_natAbs r.d1), by unfold SS; exact lz 0x2222220004fb0620b621c084b2fb4b2f8163 [r.d2, r.d1 * r.b.dot r.b, r.l10 * r.l10] c1 c2 c3, by unfold UU; exact lq 0x22221000006fb060e06895445fb0e62 [r.d3.natAbs] [r.d3] a3 (@Int.le_natAbs r.d3), lq 0x222221060e06180000007fb64b2fb0e63 [(r.b.dot r.b).natAbs] [r.b.dot r.b, TT 0] b1 t0 (@Int.le_natAbs (r.b.dot r.b)), lq 0x222221060e06180000007fb64b2fb0e63 [(r.c.dot r.c).natAbs] [r.c.dot r.c, TT 0] b2 t0 (@Int.le_natAbs (r.c.dot r.c))⟩
noncomputable def lk3 (r : R3) (t b : Int) : Nat → LC
 | 0 => ⟨r.rows3, [1], [], t, b⟩
 | 1 => ⟨r.rows3, [1, r.d1], [[]], t, b⟩
 | 2 => ⟨r.rows3, [1, r.d1, r.d2], [[], [r.l10]], t, b⟩
 | _ => r.lc3 t b
noncomputable def lk2 (r : R3) (t b : Int) : Nat → LC
 | 0 => ⟨r.rows2, [1], [], t, b⟩
 | 1 => ⟨r.rows2, [1, r.d1], [[]], t, b⟩
 | _ => r.lc2 t b
noncomputable def lkm (m : Nat) (r : R3) (t b : Int) : Nat → LC := if m = 2 then lk2 r t b else lk3 r t b
theorem B0 {x : Int} (h : (x.natAbs : Int) ≤ 9007199254740992) : Bnd KB x := by
 refine (Ni (x := x) ?_).mono Ga
 have := Dm 13; exact lq 0x280000007f22040000007f80e6080000007fb620000000000000efb0e62 [x.natAbs] [TT 13] h this
section
variable {r : R3} {t b : Int}
theorem J4 : tkD (lk3 r t b 0) 0 = r.d1 := Gq r.a r.a
theorem U5 : tkD (lk3 r t b 1) 1 = r.d2 := by
 show (r.d1 * Aq [r.b.x, r.b.y, r.b.z] [r.b.x, r.b.y, r.b.z] - Aq [r.b.x, r.b.y, r.b.z] [r.a.x, r.a.y, r.a.z] * Aq [r.b.x, r.b.y, r.b.z] [r.a.x, r.a.y, r.a.z]).tdiv 1 = _
 rw [Gq, Gq, tdiv_one]; rfl
theorem aA (h1 : r.d1 ≠ 0) : tkD (lk3 r t b 2) 2 = r.d3 := by
 have e := congrArg (fun L => gt L.sizes 3) (Z8 r t b h1)
 exact e
theorem U6 (h : r.flat) : tkD (lk2 r t b 0) 0 = r.d1 := Qy r.a r.a h.1
theorem aB (h : r.flat) : tkD (lk2 r t b 1) 1 = r.d2 := by
 have e := congrArg (fun L => gt L.sizes 2) (Z9 r t b h)
 exact e
theorem Hn {u : V3} (h : u.Sm) : (∀ j, Bnd KB (gt [u.x, u.y] j)) ∧ ∀ j, Bnd KB (gt [u.x, u.y, u.z] j) := by
 have q : ∀ {x : Int}, (x.natAbs : Int) ≤ 5 → Bnd KB x := fun h => B0 (by lia)
 exact ⟨Ai (q h.x) (Ai (q h.y) Bc), Ai (q h.x) (Ai (q h.y) (Ai (q h.z) Bc))⟩
theorem cT (hs : r.Sm) (ht : (t.natAbs : Int) ≤ 67108864) (hbt : (b.natAbs : Int) ≤ 67108864) (k : Nat) (hk : k < 3) (hz : ∀ i, i < k → tkD (lk3 r t b i) i ≠ 0) : N3 (lk3 r t b k) k := by
 have a1 := Vx hs; have a2 := Vw hs; have a3 := Vv hs; have a4 := aQ hs; have a5 := aO hs; have a6 := dA hs
 have bb := hs.b.dot hs.b; have cb := hs.c.dot hs.b; have cc := hs.c.dot hs.c; have aa := hs.a.dot hs.a; have ba := hs.b.dot hs.a; have ca := hs.c.dot hs.a
 have hrow : ∀ i j, Bnd KB (gt (gl r.rows3 i) j) := A9 (Hn hs.a).2 (A9 (Hn hs.b).2 (A9 (Hn hs.c).2 Db))
 have b1 : Bnd KB (1 : Int) := B0 (by decide)
 have B1 : Bnd KB r.d1 := B0 (o29 a1)
 have B2 : Bnd KB r.d2 := B0 (o42 a2)
 have B3 : Bnd KB r.l10 := B0 (o29 a3)
 have hw : ∀ j, (gl r.rows3 j).length ≤ 1000 := fun j => by
  match j with
  | 0 | 1 | 2 => show 3 ≤ 1000; exact o43
  | _ + 3 => show 0 ≤ 1000; exact lz 0x223e83fb0b00 []
 have ht' : Bnd KB t := B0 (o44 ht)
 have hb' : Bnd KB b := B0 (o44 hbt)
 have f3 : ∀ u v : V3, (((u.dot v).natAbs : Int) ≤ 75) → Bnd KB (Aq [u.x, u.y, u.z] [v.x, v.y, v.z]) := fun u v h => by rw [Gq]; exact B0 (o29 h)
 match k, hk with
 | 0, _ =>
  refine { hb := ⟨hrow, Ai b1 Bc, Db, ht', hb'⟩, hp := rfl, hs := rfl, hr := by show 0 < 3; omega, hr9 := by show 3 ≤ 1000; exact o43, hl := fun j hj => by exact ln 0x20201020b111 [(gl (lk3 r t b 0).parts j).length, j] hj, hw := hw, hz := fun i hi => ?_, h1 := fun j hj => by exact False.elim (ln 0x220f0b011 [j] hj), h2 := fun i hi => ?_, h3 := fun j i hj => ?_ }
  ·obtain rfl : i = 0 := by exact o12 hi
   show (1 : Int) ≠ 0; decide
  ·obtain rfl : i = 0 := by exact o12 hi
   exact f3 r.a r.a aa
  ·obtain rfl : j = 0 := by exact o12 hj
   exact Bc i
 | 1, _ =>
  have z0 := hz 0 (o67)
  rw [J4] at z0
  refine { hb := ⟨hrow, Ai b1 (Ai B1 Bc), A9 Bc Db, ht', hb'⟩, hp := rfl, hs := rfl, hr := by show 1 < 3; omega, hr9 := by show 3 ≤ 1000; exact o43, hl := fun j hj => ?_, hw := hw, hz := fun i hi => ?_, h1 := fun j hj i hi => ?_, h2 := fun i hi => ?_, h3 := fun j i hj => ?_ }
  ·obtain rfl : j = 0 := by exact o45 hj
   rfl
  ·match i, hi with
   | 0, _ => show (1 : Int) ≠ 0; decide
   | 1, _ => exact z0
  ·obtain rfl : j = 0 := by exact o45 hj
   obtain rfl : i = 0 := by exact o12 hi
   exact f3 r.b r.a ba
  ·match i, hi with
   | 0, _ => exact f3 r.b r.b bb
   | 1, _ =>
    show Bnd KB ((r.d1 * Aq [r.b.x, r.b.y, r.b.z] [r.b.x, r.b.y, r.b.z] - Aq [r.b.x, r.b.y, r.b.z] [r.a.x, r.a.y, r.a.z] * Aq [r.b.x, r.b.y, r.b.z] [r.a.x, r.a.y, r.a.z]).tdiv 1)
    rw [Gq, Gq, tdiv_one]; exact B2
  ·match j, hj with
   | 0, _ => exact Bc i
   | 1, _ => exact Ai (f3 r.b r.a ba) Bc i
 | 2, _ =>
  have z0 := hz 0 (o13)
  rw [J4] at z0
  have z1 := hz 1 (o18)
  rw [U5] at z1
  have e21 : (r.d1 * Aq [r.c.x, r.c.y, r.c.z] [r.b.x, r.b.y, r.b.z] - Aq [r.c.x, r.c.y, r.c.z] [r.a.x, r.a.y, r.a.z] * r.l10).tdiv 1 = r.l21 := by rw [Gq, Gq, tdiv_one]; rfl
  have ee2 : (r.d1 * Aq [r.c.x, r.c.y, r.c.z] [r.c.x, r.c.y, r.c.z] - Aq [r.c.x, r.c.y, r.c.z] [r.a.x, r.a.y, r.a.z] * Aq [r.c.x, r.c.y, r.c.z] [r.a.x, r.a.y, r.a.z]).tdiv 1 = r.e2 := by rw [Gq, Gq, tdiv_one]; rfl
  have B21 : Bnd KB ((r.d1 * Aq [r.c.x, r.c.y, r.c.z] [r.b.x, r.b.y, r.b.z] - Aq [r.c.x, r.c.y, r.c.z] [r.a.x, r.a.y, r.a.z] * r.l10).tdiv 1) := by rw [e21]; exact B0 (o42 a5)
  refine { hb := ⟨hrow, Ai b1 (Ai B1 (Ai B2 Bc)), A9 Bc (A9 (Ai B3 Bc) Db), ht', hb'⟩, hp := rfl, hs := rfl, hr := by show 2 < 3; omega, hr9 := by show 3 ≤ 1000; exact o43, hl := fun j hj => ?_, hw := hw, hz := fun i hi => ?_, h1 := fun j hj i hi => ?_, h2 := fun i hi => ?_, h3 := fun j i hj => ?_ }
  ·match j, hj with
   | 0, _ => rfl
   | 1, _ => rfl
  ·match i, hi with
   | 0, _ => show (1 : Int) ≠ 0; decide
   | 1, _ => exact z0
   | 2, _ => exact z1
  ·match j, hj, i, hi with
   | 0, _, 0, _ => exact f3 r.c r.a ca
   | 1, _, 0, _ => exact f3 r.c r.b cb
   | 1, _, 1, _ => exact B21
  ·match i, hi with
   | 0, _ => exact f3 r.c r.c cc
   | 1, _ =>
    show Bnd KB ((r.d1 * Aq [r.c.x, r.c.y, r.c.z] [r.c.x, r.c.y, r.c.z] - Aq [r.c.x, r.c.y, r.c.z] [r.a.x, r.a.y, r.a.z] * Aq [r.c.x, r.c.y, r.c.z] [r.a.x, r.a.y, r.a.z]).tdiv 1)
    rw [ee2]; exact B0 (o42 a6)
   | 2, _ =>
    show Bnd KB ((r.d2 * (r.d1 * Aq [r.c.x, r.c.y, r.c.z] [r.c.x, r.c.y, r.c.z] - Aq [r.c.x, r.c.y, r.c.z] [r.a.x, r.a.y, r.a.z] * Aq [r.c.x, r.c.y, r.c.z] [r.a.x, r.a.y, r.a.z]).tdiv 1 -
     (r.d1 * Aq [r.c.x, r.c.y, r.c.z] [r.b.x, r.b.y, r.b.z] - Aq [r.c.x, r.c.y, r.c.z] [r.a.x, r.a.y, r.a.z] * r.l10).tdiv 1 * (r.d1 * Aq [r.c.x, r.c.y, r.c.z] [r.b.x, r.b.y, r.b.z] - Aq [r.c.x, r.c.y, r.c.z] [r.a.x, r.a.y, r.a.z] * r.l10).tdiv 1).tdiv r.d1)
    rw [ee2, e21]
    refine Bnd.tdiv (B0 ?_)
    have := Hx (Cf a2 a6) (Cf a5 a5)
    exact ln 0x22220000000000000efb0e62bf24fb2bf24f82bf24fb2bf24f8a0e61 [(r.d2 * r.e2 - r.l21 * r.l21).natAbs] this
  ·match j, hj with
   | 0, _ => exact Bc i
   | 1, _ => exact Ai (f3 r.c r.a ca) Bc i
   | 2, _ => exact Ai (f3 r.c r.a ca) (Ai B21 Bc) i
theorem cU (hf : r.flat) (hs : r.Sm) (ht : (t.natAbs : Int) ≤ 67108864) (hbt : (b.natAbs : Int) ≤ 67108864) (k : Nat) (hk : k < 2) (hz : ∀ i, i < k → tkD (lk2 r t b i) i ≠ 0) : N3 (lk2 r t b k) k := by
 have a1 := Vx hs; have a2 := Vw hs; have a3 := Vv hs
 have bb := hs.b.dot hs.b; have aa := hs.a.dot hs.a; have ba := hs.b.dot hs.a
 have hrow : ∀ i j, Bnd KB (gt (gl r.rows2 i) j) := A9 (Hn hs.a).1 (A9 (Hn hs.b).1 Db)
 have b1 : Bnd KB (1 : Int) := B0 (by decide)
 have B1 : Bnd KB r.d1 := B0 (o29 a1)
 have B2 : Bnd KB r.d2 := B0 (o42 a2)
 have hw : ∀ j, (gl r.rows2 j).length ≤ 1000 := fun j => by
  match j with
  | 0 | 1 => show 2 ≤ 1000; exact o68
  | _ + 2 => show 0 ≤ 1000; exact lz 0x223e83fb0b00 []
 have ht' : Bnd KB t := B0 (o44 ht)
 have hb' : Bnd KB b := B0 (o44 hbt)
 have f3 : ∀ u v : V3, u.z = 0 → (((u.dot v).natAbs : Int) ≤ 75) → Bnd KB (Aq [u.x, u.y] [v.x, v.y]) := fun u v hu h => by rw [Qy _ _ hu]; exact B0 (o29 h)
 match k, hk with
 | 0, _ =>
  refine { hb := ⟨hrow, Ai b1 Bc, Db, ht', hb'⟩, hp := rfl, hs := rfl, hr := by show 0 < 2; omega, hr9 := by show 2 ≤ 1000; exact o68, hl := fun j hj => by exact ln 0x20201020b111 [(gl (lk2 r t b 0).parts j).length, j] hj, hw := hw, hz := fun i hi => ?_, h1 := fun j hj => by exact False.elim (ln 0x220f0b011 [j] hj), h2 := fun i hi => ?_, h3 := fun j i hj => ?_ }
  ·obtain rfl : i = 0 := by exact o12 hi
   show (1 : Int) ≠ 0; decide
  ·obtain rfl : i = 0 := by exact o12 hi
   exact f3 r.a r.a hf.1 aa
  ·obtain rfl : j = 0 := by exact o12 hj
   exact Bc i
 | 1, _ =>
  have z0 := hz 0 (o67)
  rw [U6 hf] at z0
  refine { hb := ⟨hrow, Ai b1 (Ai B1 Bc), A9 Bc Db, ht', hb'⟩, hp := rfl, hs := rfl, hr := by show 1 < 2; omega, hr9 := by show 2 ≤ 1000; exact o68, hl := fun j hj => ?_, hw := hw, hz := fun i hi => ?_, h1 := fun j hj i hi => ?_, h2 := fun i hi => ?_, h3 := fun j i hj => ?_ }
  ·obtain rfl : j = 0 := by exact o45 hj
   rfl
  ·match i, hi with
   | 0, _ => show (1 : Int) ≠ 0; decide
   | 1, _ => exact z0
  ·obtain rfl : j = 0 := by exact o45 hj
   obtain rfl : i = 0 := by exact o12 hi
   exact f3 r.b r.a hf.2.1 ba
  ·match i, hi with
   | 0, _ => exact f3 r.b r.b hf.2.1 bb
   | 1, _ =>
    show Bnd KB ((r.d1 * Aq [r.b.x, r.b.y] [r.b.x, r.b.y] - Aq [r.b.x, r.b.y] [r.a.x, r.a.y] * Aq [r.b.x, r.b.y] [r.a.x, r.a.y]).tdiv 1)
    rw [Qy _ _ hf.2.1, Qy _ _ hf.2.1, tdiv_one]; exact B2
  ·match j, hj with
   | 0, _ => exact Bc i
   | 1, _ => exact Ai (f3 r.b r.a hf.2.1 ba) Bc i
end
section
variable {m : Nat} {r : R3} {t b : Int} (B : TB t b) (hm : m = 2 ∨ m = 3) (hf : m = 2 → r.flat) (hs : r.Sm)
include B hm hf hs
theorem dT (k : Nat) (hk : k < m) (hz : ∀ i, i < k → tkD (lkm m r t b i) i ≠ 0) : N3 (lkm m r t b k) k := by
 have := B.t0; have := B.tb; have := B.b9
 rcases hm with rfl | rfl
 ·exact cU (hf rfl) hs (o30 ‹_› ‹_› this) (o31 ‹_› ‹_› this) k hk hz
 ·exact cT hs (o30 ‹_› ‹_› this) (o31 ‹_› ‹_› this) k hk hz
omit B hs in
theorem dS (k : Nat) (hk : k < m) (hz : ∀ i, i ≤ k → tkD (lkm m r t b i) i ≠ 0) : lkm m r t b (k + 1) = tkL (lkm m r t b k) k := by
 rcases hm with rfl | rfl
 ·match k, hk with
  | 0, _ => exact (cX r t b (hf rfl)).symm
  | 1, _ => exact (Z9 r t b (hf rfl)).symm
 ·match k, hk with
  | 0, _ => exact (cW r t b).symm
  | 1, _ => exact (cV r t b).symm
  | 2, _ =>
   have z0 := hz 0 (lz 0x222b0b00 [])
   exact (Z8 r t b (by rw [← J4 (t := t) (b := b)]; exact z0)).symm
omit B hs in
theorem Yz (k : Nat) (hk : k < m) (hz : ∀ i, i < k → tkD (lkm m r t b i) i ≠ 0) (h0 : tkD (lkm m r t b k) k = 0) : r.det = 0 := by
 rcases hm with rfl | rfl
 ·match k, hk with
  | 0, _ => exact Sk ((U6 (hf rfl)).symm.trans h0)
  | 1, _ => exact G4 ((Sf (hf rfl)).symm.trans ((aB (hf rfl)).symm.trans h0))
 ·match k, hk with
  | 0, _ => exact Sk (J4.symm.trans h0)
  | 1, _ =>
   have z0 := hz 0 (o67)
   exact Zk (by rw [← J4 (t := t) (b := b)]; exact z0) (U5.symm.trans h0)
  | 2, _ =>
   have z0 := hz 0 (o13)
   exact G4 ((aA (by rw [← J4 (t := t) (b := b)]; exact z0)).symm.trans h0)
theorem bK (hz : ∀ i, i < m → tkD (lkm m r t b i) i ≠ 0) : r.det ≠ 0 ∧ DI m t b r.det r 0 (lkm m r t b m) ∧ gt (lkm m r t b m).sizes m = r.det * r.det := by
 rcases hm with rfl | rfl
 ·have hf := hf rfl
  have z0 : r.d1 ≠ 0 := by rw [← U6 (t := t) (b := b) hf]; exact hz 0 (o13)
  have z1 : r.d2 ≠ 0 := by rw [← aB (t := t) (b := b) hf]; exact hz 1 (o18)
  have e := Sf hf
  have zd : r.det ≠ 0 := fun q => z1 (by rw [e, q]; rfl)
  exact ⟨zd, (iEA r ⟨rfl, .self_a, .self_b, .self_c, .inr ⟨rfl, hf, rfl⟩⟩ (O5 hs z0 z1 zd)), e⟩
 ·have z0 : r.d1 ≠ 0 := by rw [← J4 (t := t) (b := b)]; exact hz 0 (o14)
  have z1 : r.d2 ≠ 0 := by rw [← U5 (t := t) (b := b)]; exact hz 1 (o15)
  have z2 : r.d3 ≠ 0 := by rw [← aA (t := t) (b := b) z0]; exact hz 2 (o16)
  have zd : r.det ≠ 0 := fun q => z2 (by show r.det * r.det = 0; rw [q]; rfl)
  exact ⟨zd, (iEA r ⟨rfl, .self_a, .self_b, .self_c, .inl ⟨rfl, rfl⟩⟩ (O5 hs z0 z1 zd)), rfl⟩
end
noncomputable def Odd (σ : Aa) (x d : Addr) (c : Int) : Prop := σ x = some (.list [.int c, .ref d])
section
variable {M : Addr → Prop} {σ σ' : Aa} {x d : Addr} {c : Int} (ho : Odd σ x d c) (e : Ag x σ σ')
include ho e
omit e in
theorem Hf {a : Addr} {l : List Int} (h1 : σ a = some (iL l)) : a ≠ x := fun q => by
 rw [q, ho] at h1
 match l with
 | [] => cases h1
 | [y] => cases h1
 | y :: z :: r => simp at h1
theorem IsN.odd {a : Addr} {z : Int} (h : IsN σ a z) : IsN σ' a z := by
 refine zEA h fun l h1 h2 => ?_
 exact iEA l (e _ _ (Hf ho h1) h1) h2
theorem IsS.odd {v : V} {z : Int} (h : IsS M σ v z) : IsS M σ' v z := by
 refine Be h fun t a h1 h2 h3 h4 => ?_
 exact Br t a h1 (e _ _ (fun q => by rw [q, ho] at h2; cases h2) h2) (h3.odd ho e) h4
theorem Bh.odd {vs : List V} {xs : List Int} (h : Bh M σ vs xs) : Bh M σ' vs xs := ⟨h.1, fun i v y h1 h2 => (h.2 i v y h1 h2).odd ho e⟩
omit e in
theorem Oj {a : Addr} {vs : List V} {xs : List Int} (h1 : σ a = some (.list vs)) (h : Bh M σ vs xs) : a ≠ x := fun q => by
 rw [q, ho] at h1
 cases h1
 refine zA h fun hl h => ?_
 match xs, hl with
 | [y, z], _ => refine Ei (h 0 _ _ rfl rfl) fun t a q _ => ?_; cases q
omit e in
theorem Em {a : Addr} {l : List Addr} (h1 : σ a = some (.list (l.map .ref))) : a ≠ x := fun q => by
 rw [q, ho] at h1
 cases l with
 | nil => cases h1
 | cons y r => simp at h1
theorem Dn.odd {as : List Addr} {ls : List (List Int)} (h : Dn M σ as ls) : Dn M σ' as ls :=
 ⟨h.1, fun i a r h1 h2 => by
  refine zEA (h.2 i a r h1 h2) fun vs q1 q2 => ?_
  exact iEA vs (e _ _ (Oj ho q1 q2) q1) (q2.odd ho e)⟩
theorem Ae.odd {h0 : Heap} {s : Addr} {A : LA} {L : LC} {o : Ed} (h : Ae h0 M σ s A L) (hx : σ' x = some o) : Ae h0 M σ' s A L := by
 refine { inst := e _ _ (fun q => by have := h.inst; rw [q, ho] at this; cases this) h.inst, dict := e _ _ (fun q => by have := h.dict; rw [q, ho] at this; cases this) h.dict, rows := e _ _ (Em ho h.rows) h.rows, rowsL := h.rowsL.odd ho e, sizes := ?_, parts := e _ _ (Em ho h.parts) h.parts, partsL := h.partsL.odd ho e, top := h.top.odd ho e, bot := h.bot.odd ho e, nought := h.nought.odd ho e, live := h.live.but e hx, mu := h.mu, nd := h.nd, rsM := h.rsM, bs := h.bs }
 refine zEA h.sizes fun ss a b => ?_
 exact iEA ss (e _ _ (Oj ho a b) a) (b.odd ho e)
theorem IsM.odd {a : Addr} {rows : List (List Int)} (h : IsM σ a rows) : IsM σ' a rows := by
 refine A6 h fun as h1 h2 h3 => ?_
 exact Ay as (e _ _ (Em ho h1) h1) h2 (fun i hi => e _ _ (Hf ho (h3 i hi)) (h3 i hi))
end
noncomputable def Sg (σ : Aa) (t : Addr) (x : Int) : Prop := ∃ r, σ t = some (.tup [.bool (decide (x < 0)), .ref r]) ∧ σ r = some (iL (D9 x.natAbs))
theorem Sg.ext {σ σ' : Aa} {t : Addr} {x : Int} (h : Sg σ t x) (e : Ext σ σ') : Sg σ' t x := by refine zEA h fun r a b => ?_; exact iEA r (e _ _ a) (e _ _ b)
theorem Sg.isS {σ : Aa} {t : Addr} {x : Int} {M : Addr → Prop} (h : Sg σ t x) (hM : ∀ a o, σ a = some o → ¬ M a) : IsS M σ (.ref t) x := by
 refine zEA h fun r a b => ?_; exact Br t r rfl a (Ay _ b (Kn _) (Hp _)) (hM _ _ b)
noncomputable def Fz (σ : Aa) (a : Addr) (row : List Int) : Prop := ∃ ts : List Addr, σ a = some (.list (ts.map .ref)) ∧ ts.length = row.length ∧ ∀ j, j < row.length → Sg σ (ga ts j) (gt row j)
theorem Fz.ext {σ σ' : Aa} {a : Addr} {row : List Int} (h : Fz σ a row) (e : Ext σ σ') : Fz σ' a row := by refine A6 h fun ts h1 h2 h3 => ?_; exact Ay ts (e _ _ h1) h2 (fun j hj => (h3 j hj).ext e)
noncomputable def Fl (σ : Aa) (a : Addr) (rows : List (List Int)) : Prop := ∃ as : List Addr, σ a = some (.list (as.map .ref)) ∧ as.length = rows.length ∧ ∀ i, i < rows.length → Fz σ (ga as i) (gl rows i)
theorem Fl.ext {σ σ' : Aa} {a : Addr} {rows : List (List Int)} (h : Fl σ a rows) (e : Ext σ σ') : Fl σ' a rows := by refine A6 h fun as h1 h2 h3 => ?_; exact Ay as (e _ _ h1) h2 (fun j hj => (h3 j hj).ext e)
section
variable {σ σ' : Aa} {x d : Addr} {c : Int} (ho : Odd σ x d c) (e : Ag x σ σ')
include ho e
theorem Sg.odd {t : Addr} {z : Int} (h : Sg σ t z) : Sg σ' t z := by
 refine zEA h fun r a b => ?_; exact iEA r (e _ _ (fun q => by rw [q, ho] at a; cases a) a) (e _ _ (Hf ho b) b)
theorem Fz.odd {a : Addr} {row : List Int} (h : Fz σ a row) : Fz σ' a row := by refine A6 h fun ts h1 h2 h3 => ?_; exact Ay ts (e _ _ (Em ho h1) h1) h2 (fun j hj => (h3 j hj).odd ho e)
theorem Fl.odd {a : Addr} {rows : List (List Int)} (h : Fl σ a rows) : Fl σ' a rows := by refine A6 h fun as h1 h2 h3 => ?_; exact Ay as (e _ _ (Em ho h1) h1) h2 (fun j hj => (h3 j hj).odd ho e)
end
theorem Fl.isLs {σ : Aa} {a : Addr} {rows : List (List Int)} {M : Addr → Prop} (h : Fl σ a rows) (hM : ∀ a o, σ a = some o → ¬ M a) : ∃ as : List Addr, σ a = some (.list (as.map .ref)) ∧ Dn M σ as rows := by
 refine A6 h fun as h1 h2 h3 => ?_
 refine Ay as h1 h2 (fun i b l e1 e2 => ?_)
 have hi : i < rows.length := by
  rcases Nat.lt_or_ge i rows.length with q | q
  ·exact q
  ·rw [List.getElem?_eq_none q] at e2; cases e2
 rw [Fd hi] at e2; cases e2
 rw [Bz (by exact o7 h2 hi)] at e1; cases e1
 refine A6 (h3 i hi) fun ts t1 t2 t3 => ?_
 refine Ay _ t1 (by rw [List.length_map, t2]) (fun j v y f1 f2 => ?_)
 have hj : j < (gl rows i).length := by
  rcases Nat.lt_or_ge j (gl rows i).length with q | q
  ·exact q
  ·rw [List.getElem?_eq_none q] at f2; cases f2
 rw [Bg hj] at f2; cases f2
 rw [List.getElem?_map, Bz (by exact o7 t2 hj)] at f1; cases f1
 exact (t3 j hj).isS hM
noncomputable def trN (x : Int) : PyData := .tuple [.bool (decide (x < 0)), .list ((D9 x.natAbs).map .int)]
noncomputable def Z7 (r : List Int) : PyData := .list (r.map trN)
noncomputable def aL (rows : List (List Int)) : PyData := .list (rows.map Z7)
theorem Xp {σ : Aa} {n : Nat} (i : Int) : K5 σ n (.int i) (.int i) := by cases n <;> exact rfl
theorem U3 {σ : Aa} {n : Nat} (b : Bool) : K5 σ n (.bool b) (.bool b) := by cases n <;> exact rfl
theorem Xq {σ : Aa} {a : Addr} {l : List Int} {n : Nat} (h : σ a = some (iL l)) : K5 σ (n + 1) (.ref a) (.list (l.map .int)) := by
 refine Ay _ h (by simp) (fun i v d e1 e2 => ?_)
 rw [List.getElem?_map] at e1 e2
 (refine zEA (Option.map_eq_some_iff.mp e1) fun y y1 zq0 => ?_; subst zq0)
 rw [y1] at e2; cases e2
 exact Xp _
theorem Sg.tree {σ : Aa} {t : Addr} {x : Int} {n : Nat} (h : Sg σ t x) : K5 σ (n + 2) (.ref t) (trN x) := by
 refine zEA h fun r a b => ?_
 refine Ay _ a rfl (fun i v d e1 e2 => ?_)
 match i with
 | 0 => cases e1; cases e2; exact U3 _
 | 1 => cases e1; cases e2; exact Xq b
 | _ + 2 => simp at e1
theorem Fz.tree {σ : Aa} {a : Addr} {row : List Int} {n : Nat} (h : Fz σ a row) : K5 σ (n + 3) (.ref a) (Z7 row) := by
 refine A6 h fun ts h1 h2 h3 => ?_
 refine Ay _ h1 (by simp [h2]) (fun i v d e1 e2 => ?_)
 rw [List.getElem?_map] at e1 e2
 (refine zEA (Option.map_eq_some_iff.mp e1) fun y y1 zq0 => ?_; subst zq0)
 (refine zEA (Option.map_eq_some_iff.mp e2) fun z z1 zq0 => ?_; subst zq0)
 have hi : i < row.length := by
  rcases Nat.lt_or_ge i row.length with q | q
  ·exact q
  ·rw [List.getElem?_eq_none q] at z1; cases z1
 rw [Bg hi] at z1; cases z1
 rw [Bz (by exact o7 h2 hi)] at y1; cases y1
 exact (h3 i hi).tree
theorem Fl.tree {σ : Aa} {a : Addr} {rows : List (List Int)} (h : Fl σ a rows) : K5 σ 6 (.ref a) (aL rows) := by
 refine A6 h fun as h1 h2 h3 => ?_
 refine Ay _ h1 (by simp [h2]) (fun i v d e1 e2 => ?_)
 rw [List.getElem?_map] at e1 e2
 (refine zEA (Option.map_eq_some_iff.mp e1) fun y y1 zq0 => ?_; subst zq0)
 (refine zEA (Option.map_eq_some_iff.mp e2) fun z z1 zq0 => ?_; subst zq0)
 have hi : i < rows.length := by
  rcases Nat.lt_or_ge i rows.length with q | q
  ·exact q
  ·rw [List.getElem?_eq_none q] at z1; cases z1
 rw [Fd hi] at z1; cases z1
 rw [Bz (by exact o7 h2 hi)] at y1; cases y1
 exact (h3 i hi).tree
section
variable {h0 : Heap} {prog : Program} {w : World} {mg mb : Str → Option Value} (G : Gd (KK w) h0 mg mb) {n : Nat}
theorem C2 {l m : List Addr} {j : Nat} (h : j < l.length) : ga (l ++ m) j = ga l j := by
 unfold ga; rw [List.getD_eq_getElem?_getD, List.getD_eq_getElem?_getD, List.getElem?_append_left h]
theorem C3 {l : List Addr} {v : Addr} : ga (l ++ [v]) l.length = v := by
 unfold ga; rw [List.getD_eq_getElem?_getD, List.getElem?_append_right (Nat.le_refl _)]; simp
include G in
theorem P7 {p1 p2 p3 p4 p5 p6 : Pos} {sc : Scope} {cn : List Str} {a : Addr} {row : List Int} {σ : Aa} {Q : V → Aa → Prop} (ha : σ a = some (iL row)) (hb : ∀ j, Bnd ML (gt row j)) (hl : row.length ≤ 1000)
  (hQ : ∀ r σ', Ext σ σ' → Fz σ' r row → Q (.ref r) σ') :
  wpE (Bs h0) (CC prog w h0 (n + 1)) (.comp (.call (.glo "_law_signed" (.ref 371) p1) (.cons (.loc 0 p2) .nil) p3) (.one 0 p4) (.lst (.loc 0 p5)) sc cn [none] p6) [some (.ref a)] σ Q := by
 refine iEA _ ha ?_
 refine ⟨by rw [List.length_map, List.length_map]; show _ ≤ 16777216; exact o62 hl, Ar (fun acc υ => Ext σ υ ∧ ∃ ts : List Addr, acc = ts.map .ref ∧ ts.length ≤ row.length ∧ ∀ j, j < ts.length → Sg υ (ga ts j) (gt row j)) ⟨.refl, Ay ([]) rfl (Nat.zero_le _) (fun j hj => absurd hj (Nat.not_lt_zero _))⟩ ?_ ?_ ?_⟩
 ·refine fun acc υ => yA fun he _ => ?_
  exact he _ _ ha
 ·(refine fun acc υ it => Iu fun he ts zq0 hle hts => ?_; subst zq0; refine fun hit => ?_)
  (refine zEA (Df hit) fun v hv zq0 => ?_; subst zq0)
  rw [List.length_map] at hv
  have hlt : ts.length < row.length := by
   rcases Nat.lt_or_ge ts.length row.length with q | q
   ·exact q
   ·rw [List.getElem?_eq_none (by simpa using q)] at hv; cases hv
  rw [List.getElem?_map, Bg hlt] at hv
  cases hv
  refine Nh (M := fun _ => False) G (fun m hm => hm.elim) (hb _) fun t r υ' e1 t1 t2 _ => ?_
  refine ⟨he.trans e1, Ay (ts ++ [t]) (by simp) (by rw [List.length_append, List.length_singleton]; exact hlt) (fun j hj => ?_)⟩
  rw [List.length_append, List.length_singleton] at hj
  rcases Nat.lt_or_ge j ts.length with q | q
  ·rw [C2 q]; exact (hts j q).ext e1
  ·rw [show j = ts.length by exact o28 hj q, C3]; exact iEA r t1 t2
 ·(refine fun acc υ => Iu fun he ts zq0 hle hts => ?_; subst zq0; refine fun hlen => ?_)
  rw [List.length_map, List.length_map, List.length_map] at hlen
  intro r σ' b1 n1 e1 y1
  exact hQ r σ' (he.trans e1) (Ay ts y1 hlen (fun j hj => (hts j (o7 hlen hj)).ext e1))
include G in
theorem Iw {p1 p2 p3 p4 p5 p6 p7 p8 p9 : Pos} {sc sc2 : Scope} {cn cn2 : List Str} {ρ : Loc} {a : Addr} {rows : List (List Int)} {σ : Aa} {Q : V → Aa → Prop} (hρ : ρ.getD 6 none = some (.ref a)) (ha : IsM σ a rows) (hb : ∀ i j, Bnd ML (gt (gl rows i) j)) (hl : rows.length ≤ 1000) (hl' : ∀ i, i < rows.length → (gl rows i).length ≤ 1000)
  (hQ : ∀ r σ', Ext σ σ' → Fl σ' r rows → Q (.ref r) σ') :
  wpE (Bs h0) (CC prog w h0 (n + 1)) (.comp (.comp (.call (.glo "_law_signed" (.ref 371) p1) (.cons (.loc 0 p2) .nil) p3) (.one 0 p4) (.lst (.loc 0 p5)) sc cn [none] p6) (.one 0 p7) (.lst (.loc 6 p8)) sc2 cn2 [none] p9) ρ σ Q := by
 refine A6 ha fun as h1 h2 h3 => ?_
 conv => whnf
 rw [hρ]
 refine iEA _ h1 ?_
 refine ⟨by rw [List.length_map, List.length_map]; show _ ≤ 16777216; exact ln 0x222210000007fb001023e83fb102 [as.length, rows.length] hl h2, Ar (fun acc υ => Ext σ υ ∧ ∃ bs : List Addr, acc = bs.map .ref ∧ bs.length ≤ rows.length ∧ ∀ i, i < bs.length → Fz υ (ga bs i) (gl rows i)) ⟨.refl, Ay ([]) rfl (Nat.zero_le _) (fun j hj => absurd hj (Nat.not_lt_zero _))⟩ ?_ ?_ ?_⟩
 ·refine fun acc υ => yA fun he _ => ?_
  exact he _ _ h1
 ·(refine fun acc υ it => Iu fun he bs zq0 hle hbs => ?_; subst zq0; refine fun hit => ?_)
  (refine zEA (Df hit) fun v hv zq0 => ?_; subst zq0)
  rw [List.length_map] at hv
  have hlt : bs.length < rows.length := by
   rcases Nat.lt_or_ge bs.length rows.length with q | q
   ·exact q
   ·rw [List.getElem?_eq_none (by simp; exact ln 0x22221001202022 [as.length, bs.length, rows.length] h2 q)] at hv; cases hv
  rw [List.getElem?_map, Bz (o7 h2 hlt)] at hv
  cases hv
  refine P7 G (he _ _ (h3 _ hlt)) (hb _) (hl' _ hlt) fun r υ' e1 s1 => ?_
  refine ⟨he.trans e1, Ay (bs ++ [r]) (by simp) (by rw [List.length_append, List.length_singleton]; exact hlt) (fun j hj => ?_)⟩
  rw [List.length_append, List.length_singleton] at hj
  rcases Nat.lt_or_ge j bs.length with q | q
  ·rw [C2 q]; exact (hbs j q).ext e1
  ·rw [show j = bs.length by exact o28 hj q, C3]; exact s1
 ·(refine fun acc υ => Iu fun he bs zq0 hle hbs => ?_; subst zq0; refine fun hlen => ?_)
  rw [List.length_map, List.length_map, List.length_map, h2] at hlen
  intro r σ' b1 n1 e1 y1
  exact hQ r σ' (he.trans e1) (Ay bs y1 hlen (fun j hj => (hbs j (ln 0x22121012012122 [j, bs.length, rows.length] hlen hj)).ext e1))
include G in
theorem Th {M : Addr → Prop} {p1 p2 p3 p4 p5 p6 : Pos} {sc : Scope} {cn : List Str} {a : Addr} {vs : List V} {row : List Int} {σ : Aa} {Q : V → Aa → Prop} (ha : σ a = some (.list vs)) (hS : Bh M σ vs row) (hb : ∀ j, Bnd KB (gt row j)) (hl : row.length ≤ 1000)
  (hQ : ∀ r σ', Ext σ σ' → σ' r = some (iL row) → Q (.ref r) σ') :
  wpE (Bs h0) (CC prog w h0 (n + 1)) (.comp (.call (.glo "_law_plain" (.ref 376) p1) (.cons (.loc 0 p2) .nil) p3) (.one 0 p4) (.lst (.loc 0 p5)) sc cn [none] p6) [some (.ref a)] σ Q := by
 refine iEA _ ha ?_
 refine ⟨by rw [List.length_map, hS.1]; show _ ≤ 16777216; exact o62 hl, Ar (fun acc υ => Ext σ υ ∧ acc.length ≤ row.length ∧ acc = (row.take acc.length).map .int) ⟨.refl, Nat.zero_le _, rfl⟩ ?_ ?_ ?_⟩
 ·refine fun acc υ => yA fun he _ => ?_
  exact he _ _ ha
 ·refine fun acc υ it => yAA fun he hle hacc hit => ?_
  (refine zEA (Df hit) fun v hv zq0 => ?_; subst zq0)
  have hlt : acc.length < row.length := by
   rw [← hS.1]
   rcases Nat.lt_or_ge acc.length vs.length with q | q
   ·exact q
   ·rw [List.getElem?_eq_none q] at hv; cases hv
  refine Jv G ((hS.2 _ _ _ hv (Bg hlt)).ext he) ((hb _).mono (ln 0x22048000 [KB])) fun υ' e => ?_
  refine ⟨he.trans e, by rw [List.length_append, List.length_singleton]; assumption, ?_⟩
  rw [List.length_append, List.length_singleton, List.take_succ_eq_append_getElem hlt, List.map_append, ← hacc, Dk]
  rfl
 ·refine fun acc υ => yAA fun he hle hacc hlen => ?_
  rw [List.length_map, hS.1] at hlen
  intro r σ' r1 r2 r3 r4
  rw [hacc, hlen, List.take_of_length_le (Nat.le_refl _)] at r4
  exact hQ r σ' (he.trans r3) r4
include G in
theorem Kc {M : Addr → Prop} {A : LA} {L : LC} {x : Addr} {p1 p2 p3 p4 p5 p6 p7 p8 p9 p10 : Pos} {sc sc2 : Scope} {cn cn2 : List Str} {ρ : Loc} {σ : Aa} {Q : V → Aa → Prop} (hρ : ρ.getD 10 none = some (.ref x)) (h : Ae h0 M σ x A L) (hb : K8 L) (hl : L.rows.length ≤ 1000) (hl' : ∀ i, i < L.rows.length → (gl L.rows i).length ≤ 1000)
  (hQ : ∀ r σ', Ext σ σ' → IsM σ' r L.rows → Q (.ref r) σ') :
  wpE (Bs h0) (CC prog w h0 (n + 1)) (.comp (.comp (.call (.glo "_law_plain" (.ref 376) p1) (.cons (.loc 0 p2) .nil) p3) (.one 0 p4) (.lst (.loc 0 p5)) sc cn [none] p6) (.one 0 p7) (.lst (.attr (.loc 10 p8) 0 p9)) sc2 cn2 [none] p10) ρ σ Q := by
 have hlr := h.len_rs
 conv => whnf
 rw [hρ]
 refine h.aRx ?_
 refine iEA _ h.rows ?_
 refine ⟨by rw [List.length_map, List.length_map]; show _ ≤ 16777216; exact ln 0x222210000007fb001023e83fb102 [A.rs.length, L.rows.length] hl hlr, Ar (fun acc υ => Ext σ υ ∧ ∃ bs : List Addr, acc = bs.map .ref ∧ bs.length ≤ L.rows.length ∧ ∀ i, i < bs.length → υ (ga bs i) = some (iL (gl L.rows i))) ⟨.refl, Ay ([]) rfl (Nat.zero_le _) (fun j hj => absurd hj (Nat.not_lt_zero _))⟩ ?_ ?_ ?_⟩
 ·refine fun acc υ => yA fun he _ => ?_
  exact he _ _ h.rows
 ·(refine fun acc υ it => Iu fun he bs zq0 hle hbs => ?_; subst zq0; refine fun hit => ?_)
  (refine zEA (Df hit) fun v hv zq0 => ?_; subst zq0)
  rw [List.length_map] at hv
  have hlt : bs.length < L.rows.length := by
   rcases Nat.lt_or_ge bs.length L.rows.length with q | q
   ·exact q
   ·rw [List.getElem?_eq_none (by simp; exact ln 0x22221001202022 [A.rs.length, bs.length, L.rows.length] hlr q)] at hv; cases hv
  rw [List.getElem?_map, Bz (o7 hlr hlt)] at hv
  cases hv
  refine Ec (h.rowsL.at hlt) fun _ vs v1 v2 => ?_
  refine Th G (he _ _ v1) (v2.ext he) (hb.rows _) (hl' _ hlt) fun r υ' e1 s1 => ?_
  refine ⟨he.trans e1, Ay (bs ++ [r]) (by simp) (by rw [List.length_append, List.length_singleton]; exact hlt) (fun j hj => ?_)⟩
  rw [List.length_append, List.length_singleton] at hj
  rcases Nat.lt_or_ge j bs.length with q | q
  ·rw [C2 q]; exact e1 _ _ (hbs j q)
  ·rw [show j = bs.length by exact o28 hj q, C3]; exact s1
 ·(refine fun acc υ => Iu fun he bs zq0 hle hbs => ?_; subst zq0; refine fun hlen => ?_)
  rw [List.length_map, List.length_map, List.length_map, hlr] at hlen
  intro r σ' b1 n1 e1 y1
  exact hQ r σ' (he.trans e1) (Ay bs y1 hlen (fun j hj => e1 _ _ (hbs j (ln 0x22121012012122 [j, bs.length, L.rows.length] hlen hj))))
end
structure LS (h0 : Heap) (τ : Aa) (hp dl : Addr) (ds : List Int) (ra gv : Addr) (rows : List (List Int)) (x : Addr) (M : Addr → Prop) (σ : Aa) (A : LA) (L : LC) : Prop where
 ext : Ext τ σ
 off : ∀ a o, τ a = some o → ¬ M a
 hpM : ¬ M hp
 hpB : Bs h0 hp
 hpN : τ hp = none
 odd : ∃ c, 0 ≤ c ∧ Odd σ hp dl c
 dls : τ dl = some (iL ds)
 rws : IsM τ ra rows
 giv : Fl τ gv rows
 lat : Ae h0 M σ x A L
section
variable {h0 : Heap} {τ : Aa} {hp dl : Addr} {ds : List Int} {ra gv : Addr} {rows : List (List Int)} {x : Addr} {M : Addr → Prop} {σ σ' : Aa} {A : LA} {L : LC}
theorem LS.extE (h : LS h0 τ hp dl ds ra gv rows x M σ A L) (e : Ext σ σ') : LS h0 τ hp dl ds ra gv rows x M σ' A L := by
 refine zEA h.odd fun c c0 o => ?_
 exact { h with ext := h.ext.trans e, odd := iEA c c0 (e _ _ o), lat := h.lat.ext e }
theorem LS.grow (h : LS h0 τ hp dl ds ra gv rows x M σ A L) {M' : Addr → Prop} {A' : LA} {L' : LC} (g : Gu M σ M' σ') (l : Ae h0 M' σ' x A' L') : LS h0 τ hp dl ds ra gv rows x M' σ' A' L' := by
 refine zEA h.odd fun c c0 o => ?_
 have q := g.out h.hpM o
 exact { ext := fun a o e => g.ext a o (h.off a o e) (h.ext a o e), off := fun a o e => (g.out (h.off a o e) (h.ext a o e)).1, hpM := q.1, hpB := h.hpB, hpN := h.hpN, odd := iEA c c0 q.2, dls := h.dls, rws := h.rws, giv := h.giv, lat := l }
theorem LS.rake (h : LS h0 τ hp dl ds ra gv rows x M σ A L) {c c' : Int} (o : Odd σ hp dl c) (e : Ag hp σ σ') (o' : Odd σ' hp dl c') (c0 : 0 ≤ c') : LS h0 τ hp dl ds ra gv rows x M σ' A L :=
 { h with ext := fun a ob q => e a ob (fun z => by rw [z, h.hpN] at q; cases q) (h.ext a ob q), odd := iEA c' c0 o', lat := h.lat.odd o e o' }
theorem LS.dlh (h : LS h0 τ hp dl ds ra gv rows x M σ A L) : dl ≠ hp := fun q => by have := h.dls; rw [q, h.hpN] at this; cases this
end
theorem Yj {m : Nat} {rows : List (List Int)} (hm : m = 2 ∨ m = 3) (h1 : rows.length = m) (h2 : ∀ i, i < m → (gl rows i).length = m) (h3 : ∀ i j, i < m → j < m → -3 ≤ gt (gl rows i) j ∧ gt (gl rows i) j ≤ 5) :
  ∃ r : R3, rows = r.rw m ∧ r.Sm ∧ (m = 2 → r.flat) ∧ Fg (m - 1) rows = r.det := by
 have ab : ∀ {x : Int}, -3 ≤ x ∧ x ≤ 5 → (x.natAbs : Int) ≤ 5 := fun h => by omega
 have z5 : (((0 : Int).natAbs : Nat) : Int) ≤ 5 := by decide
 have o5 : (((1 : Int).natAbs : Nat) : Int) ≤ 5 := by decide
 rcases hm with rfl | rfl
 ·(refine zEE (Hi h1) fun p q zq0 => ?_; subst zq0)
  (refine zEE (Hi (h2 0 (o13))) fun a b zq0 => ?_; subst zq0)
  (refine zEE (Hi (h2 1 (o18))) fun c d zq0 => ?_; subst zq0)
  have fl : (⟨⟨a, b, 0⟩, ⟨c, d, 0⟩, ⟨0, 0, 1⟩⟩ : R3).flat := ⟨rfl, rfl, rfl⟩
  refine Ar ⟨⟨a, b, 0⟩, ⟨c, d, 0⟩, ⟨0, 0, 1⟩⟩ rfl ⟨⟨?_, ?_, z5⟩, ⟨?_, ?_, z5⟩, ⟨z5, z5, o5⟩⟩ (fun _ => fl) ?_
  ·exact ab (h3 0 0 (o13) (o13))
  ·exact ab (h3 0 1 (o13) (o18))
  ·exact ab (h3 1 0 (o18) (o13))
  ·exact ab (h3 1 1 (o18) (o18))
  ·exact Jr ⟨⟨a, b, 0⟩, ⟨c, d, 0⟩, ⟨0, 0, 1⟩⟩ fl
 ·(refine Ha (En h1) fun p q s zq0 => ?_; subst zq0)
  (refine Ha (En (h2 0 (o14))) fun a b c zq0 => ?_; subst zq0)
  (refine Ha (En (h2 1 (o15))) fun d e f zq0 => ?_; subst zq0)
  (refine Ha (En (h2 2 (o16))) fun g i j zq0 => ?_; subst zq0)
  refine Ar ⟨⟨a, b, c⟩, ⟨d, e, f⟩, ⟨g, i, j⟩⟩ rfl ⟨⟨?_, ?_, ?_⟩, ⟨?_, ?_, ?_⟩, ⟨?_, ?_, ?_⟩⟩ (fun z => by exact False.elim (lz 0x220f2b3b21 [] z)) ?_
  ·exact ab (h3 0 0 (o14) (o14))
  ·exact ab (h3 0 1 (o14) (o15))
  ·exact ab (h3 0 2 (o14) (o16))
  ·exact ab (h3 1 0 (o15) (o14))
  ·exact ab (h3 1 1 (o15) (o15))
  ·exact ab (h3 1 2 (o15) (o16))
  ·exact ab (h3 2 0 (o16) (o14))
  ·exact ab (h3 2 1 (o16) (o15))
  ·exact ab (h3 2 2 (o16) (o16))
  ·exact Hq ⟨⟨a, b, c⟩, ⟨d, e, f⟩, ⟨g, i, j⟩⟩
theorem Qe {m : Nat} (hm : m = 2 ∨ m = 3) (r : R3) : (r.rw m).length = m ∧ ∀ i, i < m → (gl (r.rw m) i).length = m := by
 rcases hm with rfl | rfl
 ·refine ⟨rfl, fun i hi => ?_⟩
  match i, hi with
  | 0, _ => rfl
  | 1, _ => rfl
 ·refine ⟨rfl, fun i hi => ?_⟩
  match i, hi with
  | 0, _ => rfl
  | 1, _ => rfl
  | 2, _ => rfl
theorem Mu {m : Nat} (hm : m = 2 ∨ m = 3) {r : R3} (hs : r.Sm) {k : Nat} (hk : 1 ≤ k) : ∀ i j, Bnd k (gt (gl (r.rw m) i) j) := by
 have q : ∀ {x : Int}, (x.natAbs : Int) ≤ 5 → Bnd k x := fun h => Bnd.mono (show Bnd 1 _ by unfold Bnd; rw [Int.pow_one]; lia) hk
 rcases hm with rfl | rfl
 ·exact A9 (Ai (q hs.a.x) (Ai (q hs.a.y) Bc)) (A9 (Ai (q hs.b.x) (Ai (q hs.b.y) Bc)) Db)
 ·exact A9 (Ai (q hs.a.x) (Ai (q hs.a.y) (Ai (q hs.a.z) Bc))) (A9 (Ai (q hs.b.x) (Ai (q hs.b.y) (Ai (q hs.b.z) Bc))) (A9 (Ai (q hs.c.x) (Ai (q hs.c.y) (Ai (q hs.c.z) Bc))) Db))
theorem Ql {m : Nat} (hm : m = 2 ∨ m = 3) (r : R3) (t b : Int) : lkm m r t b 0 = ⟨r.rw m, [1], [], t, b⟩ := by
 rcases hm with rfl | rfl <;> rfl
section
variable {h0 : Heap} {prog : Program} {w : World} {mg mb : Str → Option Value} (G : Gd (KK w) h0 mg mb) {n : Nat}
include G in
theorem Wn {p1 p2 p3 p4 p5 p6 p7 p8 p9 p10 p11 : Pos} {sc : Scope} {cn : List Str} {many : Nat} {hp dl : Addr} {ds : List Int} {c : Int} {u0 : Option V} {σ : Aa} {Q : V → Aa → Prop} (hm : many ≤ 3) (hB : Bs h0 hp) (ho : Odd σ hp dl c) (c0 : 0 ≤ c) (hd : σ dl = some (iL ds)) (hne : dl ≠ hp)
  (hQ : ∀ r row c' σ', Ag hp σ σ' → Odd σ' hp dl c' → 0 ≤ c' → σ' r = some (iL row) → row.length = many → (∀ j, j < many → -3 ≤ gt row j ∧ gt row j ≤ 5) → Q (.ref r) σ') :
  wpE (Bs h0) (CC prog w h0 (n + 1)) (.comp (.bin .Sub (.call (.glo "_law_raked" (.ref 364) p1) (.cons (.loc 1 p2) (.cons (.num 9 p3) .nil)) p4) (.num 3 p5) p6) (.one 0 p7) (.range1 (.loc 2 p8) p9 p10) sc cn [none, some 1] p11) [u0, some (.ref hp), some (.int (many : Nat))] σ Q := by
 refine And.intro (⟨by lia, by lia⟩) (?_)
 refine ⟨by rw [Bp]; show _ ≤ 16777216; exact ln 0x222210000007fb000b1ec0e83b102 [((↑many : Int) - 0).toNat, many] hm (ltn ((↑many : Int) - 0) (ln 0x220b0ec0b60 [many])), Ar (fun acc υ => Ag hp σ υ ∧ ∃ c' row, Odd υ hp dl c' ∧ 0 ≤ c' ∧ acc = row.map .int ∧ ∀ j, j < row.length → -3 ≤ gt row j ∧ gt row j ≤ 5) ⟨fun _ _ _ e => e, Br c ([]) ho c0 rfl (fun j hj => absurd hj (Nat.not_lt_zero _))⟩ (fun _ _ _ => trivial) ?_ ?_⟩
 ·(refine fun acc υ it => Rj fun he c' row ho' c0' zq0 hr => ?_; subst zq0; refine fun hit => ?_)
  (refine zA (Bx hit) fun zq0 hlt => ?_; subst zq0)
  refine Go G hB ho' (he _ _ hne hd) hne c0' (show (0 : Int) < 9 by decide) fun v υ' v0 v9 e1 o1 => ?_
  refine ⟨fun a o q e => e1 a o q (he a o q e), Br (c' + 1) (row ++ [v - 3]) o1 (o64 c0') (by simp) (fun j hj => ?_)⟩
  rw [List.length_append, List.length_singleton] at hj
  rcases Nat.lt_or_ge j row.length with q | q
  ·rw [Fv q]; exact hr j q
  ·rw [show j = row.length by exact o28 hj q, Cu (Nat.le_refl _), Nat.sub_self]
   show -3 ≤ v - 3 ∧ v - 3 ≤ 5
   exact ⟨lz 0x2223b0c3bd600b61 [v] v0, lz 0x2225b3b0c69b071 [v] v9⟩
 ·(refine fun acc υ => Rj fun he c' row ho' c0' zq0 hr => ?_; subst zq0; refine fun hlen => ?_)
  rw [List.length_map, Bp] at hlen
  intro r σ' b1 n1 e1 y1
  exact hQ r row c' σ' (fun a o q e => e1 a o (he a o q e)) (e1 _ _ ho') c0' y1 ‹_› fun j hj => hr j (by lia)
end
theorem J0 {B : Addr → Prop} {C : V → List V → Aa → (V → Aa → Prop) → Prop} {e : Ex} {ρ : Loc} {σ : Aa} {Q : V → Aa → Prop} (h : wpE B C e ρ σ Q) : wpE B C e ρ σ Q := h
section
variable {h0 : Heap} {prog : Program} {w : World} {mg mb : Str → Option Value} (G : Gd (KK w) h0 mg mb) {n : Nat}
include G in
theorem Tu {p1 p2 p3 p4 p5 p6 p7 p8 p9 p10 p11 p12 p13 p14 p15 p16 : Pos} {sc sc2 : Scope} {cn cn2 : List Str} {ρ : Loc} {many : Nat} {hp dl : Addr} {ds : List Int} {c : Int} {σ : Aa} {Q : V → Aa → Prop} (r1 : ρ.getD 1 none = some (.ref hp)) (r2 : ρ.getD 2 none = some (.int (many : Nat)))
  (hm : many = 2 ∨ many = 3) (hB : Bs h0 hp) (ho : Odd σ hp dl c) (c0 : 0 ≤ c) (hd : σ dl = some (iL ds)) (hne : dl ≠ hp)
  (hQ : ∀ r (r0 : R3) c' σ', Ag hp σ σ' → Odd σ' hp dl c' → 0 ≤ c' → IsM σ' r (r0.rw many) → r0.Sm → (many = 2 → r0.flat) → Fg (many - 1) (r0.rw many) = r0.det → Q (.ref r) σ') :
  wpE (Bs h0) (CC prog w h0 (n + 1)) (.comp (.comp (.bin .Sub (.call (.glo "_law_raked" (.ref 364) p1) (.cons (.loc 1 p2) (.cons (.num 9 p3) .nil)) p4) (.num 3 p5) p6) (.one 0 p7) (.range1 (.loc 2 p8) p9 p10) sc cn [none, some 1] p11) (.one 0 p12) (.range1 (.loc 2 p13) p14 p15) sc2 cn2 [none, some 1, some 2] p16) ρ σ Q := by
 conv => whnf
 rw [r2]
 refine And.intro (⟨by lia, by lia⟩) (?_)
 refine ⟨by rw [Bp]; show _ ≤ 16777216; exact Or.elim hm (fun zt2 => ln 0x222210000007fb000b1ec0e82b122 [((↑many : Int) - 0).toNat, many] zt2 (ltn ((↑many : Int) - 0) (ln 0x2120b0ec0b62b021 [many] zt2))) (fun zt2 => ln 0x222210000007fb000b1ec0e83b122 [((↑many : Int) - 0).toNat, many] zt2 (ltn ((↑many : Int) - 0) (ln 0x2120b0ec0b63b021 [many] zt2))), Ar (fun acc υ => Ag hp σ υ ∧ ∃ c' as rows, Odd υ hp dl c' ∧ 0 ≤ c' ∧ acc = List.map V.ref as ∧ as.length = rows.length ∧ (∀ i, i < rows.length → υ (ga as i) = some (iL (gl rows i)) ∧ (gl rows i).length = many ∧ ∀ j, j < many → -3 ≤ gt (gl rows i) j ∧ gt (gl rows i) j ≤ 5)) ⟨fun _ _ _ e => e, Bn c ([]) ([]) ho c0 rfl rfl (fun j hj => absurd hj (Nat.not_lt_zero _))⟩ (fun _ _ _ => trivial) ?_ ?_⟩
 ·rintro acc υ it ⟨he, c', as, rows, ho', c0', rfl, hl, hr⟩ hit
  (refine zA (Bx hit) fun zq0 hlt => ?_; subst zq0)
  have eρ : D4 (.one 0 p12) [V.int (0 + ((List.map V.ref as).length : Nat))] (capt [none, some 1, some 2] ρ) = [some (.int (0 + ((List.map V.ref as).length : Nat))), some (.ref hp), some (.int (many : Nat))] := by
   unfold capt D4
   simp only [List.map_cons, List.map_nil, r1, r2, List.set_cons_zero]
  rw [eρ]
  refine Wn G (by exact Or.elim hm (fun zt2 => ln 0x2223b002b021 [many] zt2) (fun zt2 => ln 0x2223b003b021 [many] zt2)) hB ho' c0' (he _ _ hne hd) hne fun r row c2 υ' e1 o1 c02 y1 l1 b1 => ?_
  refine ⟨fun a o q e => e1 a o q (he a o q e), Bn c2 (as ++ [r]) (rows ++ [row]) o1 c02 (by simp) (by simp [hl]) (fun i hi => ?_)⟩
  rw [List.length_append, List.length_singleton] at hi
  rcases Nat.lt_or_ge i rows.length with q | q
  ·rw [C2 (o7 hl q), Fw q]
   refine zAA (hr i q) fun a1 a2 a3 => ?_
   exact ⟨e1 _ _ (Hf ho' a1) a1, a2, a3⟩
  ·rw [show i = rows.length by exact o28 hi q, Cl, ← hl, C3]
   exact ⟨y1, l1, b1⟩
 ·rintro acc υ ⟨he, c', as, rows, ho', c0', rfl, hl, hr⟩ hlen
  rw [List.length_map, Bp] at hlen
  intro r σ' b1 n1 e1 y1
  have hrl : rows.length = many := by lia
  refine L3 (Yj hm hrl (fun i hi => (hr i (ln 0x22121012012122 [i, rows.length, many] hrl hi)).2.1) fun i j hi hj => (hr i (ln 0x22121012012122 [i, rows.length, many] hrl hi)).2.2 j hj) fun r0 q1 q2 q3 q4 => ?_
  rw [q1] at q4
  refine hQ r r0 c' σ' (fun a o q e => e1 a o (he a o q e)) (e1 _ _ ho') c0' ?_ q2 q3 q4
  rw [← q1]
  exact Ay as y1 hl (fun i hi => e1 _ _ (hr i hi).1)
set_option maxHeartbeats 1000000 in
include G in
theorem Y5 {sc : Addr} {script : List Int} {σ : Aa} {N : Loc → Aa → Prop} {R : V → Aa → Prop} (hs : σ sc = some (iL script)) (hl : script.length ≤ 63) (hn : IsS (fun _ => False) σ (.ref 214) 0)
  (hQ : ∀ hp dl ds many t b ra gv r0 x M τ σ' A, (many = 2 ∨ many = 3) → TB t b → r0.Sm → (many = 2 → r0.flat) → LS h0 τ hp dl ds ra gv (r0.rw many) x M σ' A (lkm many r0 t b 0) →
   N [some (.ref sc), some (.ref hp), some (.int (many : Nat)), some (.int t), some (.int b), none, some (.ref ra), some (.ref gv), some (.int r0.det), some (.int 0), some (.ref x), none, none, none, none, none, none, none, none, none, none] σ') :
  Di (Bs h0) (CC prog w h0 (n + 4)) Hv [some (.ref sc), none, none, none, none, none, none, none, none, none, none, none, none, none, none, none, none, none, none, none, none] σ N R := by
 have hML := Ch
 refine iEA _ hs ?_
 rw [show cut (List.map V.int script) none (some 24) = (script.take 24).map .int by rw [Js (e := 24) (by rfl), List.map_take]]
 intro s1 σ1 b1 n1 e1 y1
 refine iEA _ y1 ?_
 refine ⟨by rw [List.length_map, List.length_map, List.length_take]; show _ ≤ 16777216; exact ln 0x22210000007fb00182fb001 [min 24 script.length] (Nat.min_le_left 24 script.length), Ar (fun acc υ => Ext σ1 υ ∧ ∃ ds : List Int, acc = ds.map .int) ⟨.refl, [], rfl⟩ ?_ ?_ ?_⟩
 ·rintro acc υ ⟨he, _⟩
  exact he _ _ y1
 ·rintro acc υ it ⟨he, ds, rfl⟩ hit
  (refine zEA (Df hit) fun v hv zq0 => ?_; subst zq0)
  rw [List.getElem?_map] at hv
  (refine zEA (Option.map_eq_some_iff.mp hv) fun i _ zq0 => ?_; subst zq0)
  exact And.intro (he) (Exists.intro (ds ++ [(i.natAbs : Int)]) (by simp))
 rintro acc σ2 ⟨e2, ds, rfl⟩ hlen
 intro dl σ3 b3 n3 e3 y3
 conv => whnf
 intro hp σ4 b4 n4 e4 y4
 have hne : dl ≠ hp := fun q => by rw [← q, y3] at n4; cases n4
 have o4 : Odd σ4 hp dl 0 := y4
 have dl4 : σ4 dl = some (iL ds) := e4 _ _ y3
 have E4 : Ext σ σ4 := ((e1.trans e2).trans e3).trans e4
 have nt4 := hn.ext E4
 clear hs hlen y1 e1 e2 y3 e3 e4 y4 n4 n3 n1 E4
 refine Go (n := n + 3) G b4 o4 dl4 hne (by decide) (show (0 : Int) < 2 by decide) fun v σ5 v0 v2 e5 o5 => ?_
 have dl5 : σ5 dl = some (iL ds) := e5 _ _ hne dl4
 have nt5 := nt4.odd o4 e5
 obtain ⟨many, hmv, hm⟩ : ∃ many : Nat, 2 + v = (many : Int) ∧ (many = 2 ∨ many = 3) := iEA ((2 + v).toNat) (lq 0x22120e02ba802ba0e81 [(2 + v).toNat] [v] (ltn (2 + v) (lz 0x22202ba0b600b61 [v] v0))) (by lia)
 conv => whnf
 rw [hmv]
 intro t1 σ6 b6 n6 e6 y6
 conv => whnf
 intro t2 σ7 b7 n7 e7 y7
 conv => whnf
 intro t3 σ8 b8 n8 e8 y8
 conv => whnf
 intro t4 σ9 b9 n9 e9 y9
 conv => whnf
 intro tl σ10 b10 n10 e10 y10
 have E10 : Ext σ5 σ10 := (((e6.trans e7).trans e8).trans e9).trans e10
 have o10 : Odd σ10 hp dl (0 + 1) := E10 _ _ o5
 refine Go (n := n + 3) G b4 o10 (E10 _ _ dl5) hne (by decide) (show (0 : Int) < 4 by decide) fun u σ11 u0 u4 e11 o11 => ?_
 have dl11 : σ11 dl = some (iL ds) := e11 _ _ hne (E10 _ _ dl5)
 have nt11 := (nt5.ext E10).odd o10 e11
 have x1 : σ11 t1 = some (.tup [.int 3, .int 4]) := e11 _ _ (fun q => by have := o10; unfold Odd at this; rw [← q, e10 _ _ (e9 _ _ (e8 _ _ (e7 _ _ y6)))] at this; cases this) (e10 _ _ (e9 _ _ (e8 _ _ (e7 _ _ y6))))
 have x2 : σ11 t2 = some (.tup [.int 1, .int 1]) := e11 _ _ (fun q => by have := o10; unfold Odd at this; rw [← q, e10 _ _ (e9 _ _ (e8 _ _ y7))] at this; cases this) (e10 _ _ (e9 _ _ (e8 _ _ y7)))
 have x3 : σ11 t3 = some (.tup [.int 1, .int 2]) := e11 _ _ (fun q => by have := o10; unfold Odd at this; rw [← q, e10 _ _ (e9 _ _ y8)] at this; cases this) (e10 _ _ (e9 _ _ y8))
 have x4 : σ11 t4 = some (.tup [.int 9, .int 10]) := e11 _ _ (fun q => by have := o10; unfold Odd at this; rw [← q, e10 _ _ y9] at this; cases this) (e10 _ _ y9)
 have xl : σ11 tl = some (.list ([t1, t2, t3, t4].map .ref)) := e11 _ _ (Em o10 (l := [t1, t2, t3, t4]) y10) y10
 obtain ⟨j, tj, t, b, ju, j4, gj, yj, hTB⟩ : ∃ (j : Nat) (tj : Addr) (t b : Int), u = (j : Int) ∧ j < 4 ∧ ga [t1, t2, t3, t4] j = tj ∧ σ11 tj = some (.tup [.int t, .int b]) ∧ TB t b := by
  have hu : u = 0 ∨ u = 1 ∨ u = 2 ∨ u = 3 := by lia
  rcases hu with rfl | rfl | rfl | rfl
  ·exact Gj 0 t1 3 4 rfl (lz 0x224b0b10 []) rfl x1 ⟨by decide, by decide, by decide⟩
  ·exact Gj 1 t2 1 1 rfl (lz 0x224b1b10 []) rfl x2 ⟨by decide, by decide, by decide⟩
  ·exact Gj 2 t3 1 2 rfl (lz 0x224b2b10 []) rfl x3 ⟨by decide, by decide, by decide⟩
  ·exact Gj 3 t4 9 10 rfl (lz 0x224b3b10 []) rfl x4 ⟨by decide, by decide, by decide⟩
 clear x1 x2 x3 x4 y6 y7 y8 y9 y10 n6 n7 n8 n9 n10 b6 b7 b8 b9 b10 e6 e7 e8 e9 e10
 refine ixR xl j ju (by show j < 4; exact j4) ?_
 rw [gj]
 refine C5 _ _ yj ?_
 refine J0 ?_
 refine Tu (n := n + 3) G (by rfl) (by rfl) hm b4 o11 (by decide) dl11 hne fun ra r0 c12 σ12 e12 o12 c0 hM sm fl hdet => ?_
 have dl12 : σ12 dl = some (iL ds) := e12 _ _ hne dl11
 have nt12 := nt11.odd o11 e12
 refine zA (Qe hm r0) fun rl rl' => ?_
 refine J0 ?_
 refine Iw (n := n + 3) G (by rfl) hM (Mu hm sm (ln 0x21201b07ffff86fb021 [ML] hML)) (lq 0x221223e83fb001021e02ba82b073 [(R3.rw many r0).length, many] [v] v2 hmv rl) (fun i hi => by rw [rl' i (o81 rl hi)]; exact lq 0x21223e83fb000e02ba82b072 [many] [v] v2 hmv) fun gv σ13 e13 hG => ?_
 refine CC.up (n := n + (many - 1) + 1) (Jt (k := 1) G (many - 1) (hM.ext e13) (ln 0x2121221b1a0221b1a22022 [(R3.rw many r0).length, many - 1, many] rl (lsc many 1 (lq 0x222201b00e02ba800b62 [many] [v] v0 hmv))) (fun i hi => by rw [rl' i (ln 0x222210111b2a21b2a012 [i, many, many - 1] hi (lsc many 1 (lq 0x222201b00e02ba800b62 [many] [v] v0 hmv)))]; exact ln 0x22121b1a0201b1a21 [many, many - 1] (lsc many 1 (lq 0x222201b00e02ba800b62 [many] [v] v0 hmv))) (Mu hm sm (lz 0x221b1b00 [])) ?_ (lq 0x221223e83fb0011b0a21e02ba82b073 [many - 1, many] [v] v2 hmv (lsc many 1 (lq 0x222201b00e02ba800b62 [many] [v] v0 hmv))) fun σ14 e14 => ?_) (lq 0x221224b0a1b10aa021b1a22e02ba82b073 [n, many - 1, many] [v] v2 hmv (lsc many 1 (lq 0x222201b00e02ba800b62 [many] [v] v0 hmv)))
 ·rcases hm with rfl | rfl <;> decide
 rw [hdet]
 have E14 := e13.trans e14
 have nt14 := nt12.ext E14
 have o14 : Odd σ14 hp dl c12 := E14 _ _ o12
 refine zEA ((hG.ext e14).isLs (M := fun _ => False) (fun _ _ _ q => q)) fun as as1 as2 => ?_
 have := hTB.t0; have := hTB.tb; have := hTB.b9
 refine T8 (n := n) G as1 as2 nt14 (fun m hm => hm.elim) (lq 0x221223e83fb001021e02ba82b073 [(R3.rw many r0).length, many] [v] v2 hmv rl) ((Cx (o30 ‹_› ‹_› this)).mono (by have := Pg; exact ln 0x2212100e4014fb027ffff86fb122 [KD, ML] hML this)) ((Cx (o31 ‹_› ‹_› this)).mono (by have := Pg; exact ln 0x2212100e4014fb027ffff86fb122 [KD, ML] hML this)) fun M' A x σ15 m1 m2 e15 l15 => ?_
 conv => whnf
 have fr : ∀ a o, σ14 a = some o → ¬ M' a := fun a o e q => by
  rcases m2 a q with z | z
  ·exact z
  ·rw [e] at z; cases z
 let τ : Aa := fun a => if a = hp then none else σ14 a
 have eτ : Ag hp σ14 τ := fun a o q e => by show (if a = hp then none else σ14 a) = some o; rw [if_neg q]; exact e
 have τe : ∀ a o, τ a = some o → σ14 a = some o := fun a o e => by
  have e : (if a = hp then none else σ14 a) = some o := e
  split at e
  ·cases e
  ·exact e
 refine hQ hp dl ds many t b ra gv r0 x M' τ σ15 A hm hTB sm fl { ext := fun a o e => e15 a o (τe a o e), off := fun a o e => fr a o (τe a o e), hpM := fr hp _ o14, hpB := b4, hpN := if_pos rfl, odd := iEA c12 c0 (e15 _ _ o14), dls := eτ _ _ hne (E14 _ _ dl12), rws := (hM.ext E14).odd o14 eτ, giv := (hG.ext e14).odd o14 eτ, lat := by rw [Ql hm]; exact l15 }
end
structure Sml (m : Nat) (L : LC) : Prop where
 sz : ∀ i, i < m → 0 < gt L.sizes i ∧ gt L.sizes i ≤ 67108864
 p0 : 0 < pr L
 p9 : pr L ≤ 67108864
theorem St3.small {m : Nat} {t b W : Int} {r0 r : R3} {L : LC} {Tb Tc : Int} (hm : m = 2 ∨ m = 3) (h : St3 m t b W r0 r L) (hB : r.Bd SS UU Tb Tc) : Sml m L := by
 have p1 := hB.p1; have p2 := hB.p2; have s1 := hB.s1; have s2 := hB.s2
 unfold SS at s1 s2
 have o : gt L.sizes 0 = 1 := by rcases h.form with ⟨_, rfl⟩ | ⟨_, _, rfl⟩ <;> rfl
 have q := Cv s1 s2 (lz 0x22200b601b61 [r.d2] p2) (by decide)
 have q0 := Cv p1 p2 (by decide) (lz 0x22200b601b61 [r.d1] p1)
 refine ⟨fun i hi => ?_, ?_, ?_⟩
 ·have hc : i = 0 ∨ i = 1 ∨ i = 2 := by lia
  rcases hc with rfl | rfl | rfl
  ·rw [o]; decide
  ·rw [h.g1]; exact ⟨lz 0x22200b701b61 [r.d1] p1, lz 0x22240000007fb0620004fb061 [r.d1] s1⟩
  ·rw [h.g2]; exact ⟨lz 0x22200b701b61 [r.d2] p2, lz 0x22240000007fb0620004fb061 [r.d2] s2⟩
 ·rcases hm with e | e
  ·rw [h.pr2 e]; assumption
  ·rw [h.pr3 e]; assumption
 ·rcases hm with e | e
  ·rw [h.pr2 e]; exact lz 0x22240000007fb0620004fb061 [r.d1] s1
  ·rw [h.pr3 e]; assumption
theorem DI.small {m : Nat} {t b W : Int} {r0 : R3} {n : Nat} {L : LC} (hm : m = 2 ∨ m = 3) (h : DI m t b W r0 n L) : Sml m L := by
 refine zEA h fun r h1 h2 => ?_; exact h1.small hm h2
theorem RJ.small {m : Nat} {t b W D1 D2 : Int} {r0 : R3} {w k : Nat} {L : LC} (hm : m = 2 ∨ m = 3) (h : RJ m t b W r0 D1 D2 w k L) : Sml m L := by
 refine Ha h fun r _ _ h => ?_; exact h.st.small hm h.bd
theorem aY {b : Int} (h : 0 ≤ b) (c : Nat) : 0 ≤ b ^ c := Int.pow_nonneg h
theorem Te {b t P P' P0 : Int} {c : Nat} (hb : 0 ≤ b) (ht : 0 ≤ t) (h : b ^ c * P ≤ t ^ c * P0) (h' : b * P' ≤ t * P) : b ^ (c + 1) * P' ≤ t ^ (c + 1) * P0 := by
 have h1 := Int.mul_le_mul_of_nonneg_left h' (aY hb c)
 have h2 := Int.mul_le_mul_of_nonneg_left h ht
 have e1 : b ^ (c + 1) * P' = b ^ c * (b * P') := by rw [Int.pow_succ, Int.mul_assoc]
 have e2 : t ^ (c + 1) * P0 = t * (t ^ c * P0) := by rw [Int.pow_succ, Int.mul_comm (t ^ c) t, Int.mul_assoc]
 have e3 : b ^ c * (t * P) = t * (b ^ c * P) := by grind
 exact lz 0x22122221064385182085463265 [b ^ (c + 1) * P', t ^ (c + 1) * P0, b ^ c * (b * P'), b ^ c * (t * P), t * (b ^ c * P), t * (t ^ c * P0)] h1 h2 e1 e2 e3
theorem Ea {x : Int} (h0 : 0 ≤ x) (h : x ≤ 67108864) : bitsI x ≤ 64 := Ce (by lia) (by lia)
section
variable {h0 : Heap} {τ : Aa} {hp dl : Addr} {ds : List Int} {ra gv : Addr} {rows : List (List Int)} {x : Addr} {M : Addr → Prop} {σ σ' : Aa} {A : LA} {L : LC}
theorem LS.freeze (h : LS h0 τ hp dl ds ra gv rows x M σ A L) {f : Addr} {o : Ed} (hf : σ f = some o) (hM : ¬ M f) (hne : f ≠ hp) : ∃ τ', LS h0 τ' hp dl ds ra gv rows x M σ A L ∧ τ' f = some o := by
 have e : Ext τ (fun a => if a = f then some o else τ a) := fun a ob q => by
  show (if a = f then some o else τ a) = some ob
  split
  ·rename_i z; rw [z] at q; rw [← hf]; exact h.ext _ _ q
  ·exact q
 refine iEA (fun a => if a = f then some o else τ a) ({ h with ext := fun a ob q => ?_, off := fun a ob q => ?_, hpN := ?_, dls := e _ _ h.dls, rws := h.rws.ext e, giv := h.giv.ext e }) (if_pos rfl)
 ·have q : (if a = f then some o else τ a) = some ob := q
  split at q
  ·rename_i z; rw [z, ← q]; exact hf
  ·exact h.ext a ob q
 ·have q : (if a = f then some o else τ a) = some ob := q
  split at q
  ·rename_i z; rw [z]; exact hM
  ·exact h.off a ob q
 ·show (if hp = f then some o else τ hp) = none
  rw [if_neg (Ne.symm hne)]; exact h.hpN
theorem LS.apart (h : LS h0 τ hp dl ds ra gv rows x M σ A L) {f : Addr} (hf : σ f = none) : ¬ M f ∧ f ≠ hp := by
 refine ⟨h.lat.live.not hf, fun q => ?_⟩
 refine zEA h.odd fun c _ o => ?_
 rw [q, o] at hf; cases hf
end
section
variable {h0 : Heap} {prog : Program} {w : World} {mg mb : Str → Option Value} (G : Gd (KK w) h0 mg mb) {n : Nat}
include G in
theorem Zq {m : Nat} {L : LC} {a : Addr} {σ : Aa} {Q : V → Aa → Prop} (hs : Sml m L) (hl : L.sizes.length = m + 1) (ha : σ a = some (iL L.sizes)) (hQ : ∀ σ', Ext σ σ' → Q (.int (pr L)) σ') : CC prog w h0 (n + 1) (.ref 398) [.ref a] σ Q := by
 refine T4 G ha (fun e => by rw [e] at hl; cases hl) (fun k hk => ?_) hQ
 refine zA (hs.sz k (ln 0x2222210121b3a23011b1a223 [k, m, L.sizes.length, L.sizes.length - 1] hl hk (lsc L.sizes.length 1 (ln 0x21201b01b1a021 [L.sizes.length, m] hl)))) fun a1 a2 => ?_
 exact .inr (.inl (Ea (o9 a1 a2) a2))
include G in
theorem Wx {m : Nat} {t b : Int} {r0 : R3} {L : LC} {ra fa : Addr} {σ : Aa} {Q : V → Aa → Prop} (hm : m = 2 ∨ m = 3) (sm : r0.Sm) (hW : r0.det ≠ 0) (g : H1 m t b r0.det (r0.rw m) L) (ho : IsM σ ra (r0.rw m)) (ha : IsM σ fa L.rows)
  (hQ : ∀ σ', Ext σ σ' → Q (.bool true) σ') : CC prog w h0 (n + 4) (.ref 386) [.ref ra, .ref fa, .int r0.det] σ Q := by
 refine zA (Qe hm r0) fun rl rl' => ?_
 have K := Pg
 have m1 : m - 1 + 1 = m := by exact Or.elim hm (fun zt2 => ln 0x122211b0a211b0a21 [m - 1, m] (lsc m 1 (ln 0x21201b02b021 [m] zt2))) (fun zt2 => ln 0x122211b0a211b0a21 [m - 1, m] (lsc m 1 (ln 0x21201b03b021 [m] zt2)))
 refine CC.up (n := n + (m - 1) + 2) (T6 (k := KD) G (m := m - 1) ho ha (ln 0x2121221b1a0221b1a22022 [(R3.rw m r0).length, m - 1, m] rl m1) (by rw [g.lr]; exact bE m1) (fun i hi => by rw [rl' i (o65 m1 hi)]; exact bE m1) (fun i hi => by rw [g.lrk i (o65 m1 hi)]; exact bE m1) (Mu hm sm (ln 0x21201b0e4014fb021 [KD] K)) g.hr ?_ (by exact Or.elim hm (fun zt2 => ln 0x22223e83fb0011b0a22b122 [m - 1, m] zt2 m1) (fun zt2 => ln 0x22223e83fb0011b0a23b122 [m - 1, m] zt2 m1)) hW g.det (fun i c hi hc => g.dvd i c (o65 m1 hi) (o65 m1 hc)) hQ) (by exact Or.elim hm (fun zt2 => ln 0x22224b0a2b10aa021b1a22b222 [n, m - 1, m] zt2 m1) (fun zt2 => ln 0x22224b0a2b10aa021b1a23b222 [n, m - 1, m] zt2 m1))
 rw [K]
 rcases hm with rfl | rfl <;> decide
end
noncomputable def W0 : St → Sts
 | .forr _ _ b _ => b
 | _ => .nil
noncomputable def aF : Sts := W0 Eb.tl.tl.hd
noncomputable abbrev slots (sc hp ra gv x : Addr) (many : Nat) (t b W cnt : Int) (u5 u11 u12 u13 u14 u15 u16 u17 u18 u19 u20 : Option V) : Loc :=
 [some (.ref sc), some (.ref hp), some (.int (many : Nat)), some (.int t), some (.int b), u5, some (.ref ra), some (.ref gv), some (.int W), some (.int cnt), some (.ref x), u11, u12, u13, u14, u15, u16, u17, u18, u19, u20]
noncomputable def Z2 (h0 : Heap) (τ : Aa) (sc hp dl : Addr) (ds : List Int) (ra gv x f : Addr) (many : Nat) (t b : Int) (r0 : R3) (P0 : Int) (k : Nat) (ρ : Loc) (σ : Aa) : Prop :=
 ∃ u5 u11 u13 u14 u15 u16 M A L, ∃ cnt : Nat, ρ = slots sc hp ra gv x many t b r0.det (cnt : Int) u5 u11 (some (.ref f)) u13 u14 u15 u16 none none none none ∧ LS h0 τ hp dl ds ra gv (r0.rw many) x M σ A L ∧ DI many t b r0.det r0 k L ∧ cnt ≤ k ∧ b ^ cnt * pr L ≤ t ^ cnt * P0
section
variable {B : Addr → Prop} {C : V → List V → Aa → (V → Aa → Prop) → Prop} {ρ : Loc} {σ : Aa} {Q : V → Aa → Prop} {Qs : List V → Aa → Prop}
theorem Uz {f : Ex} {as : Exs} {p : Pos} (h : wpE B C f ρ σ fun g σ => Hb B C as ρ σ fun vs σ => C g vs σ Q) : wpE B C (.call f as p) ρ σ Q := h
theorem Xm {x : Str} {v : V} {p : Pos} (h : Q v σ) : wpE B C (.glo x v p) ρ σ Q := h
theorem Rl {i : Nat} {v : V} {p : Pos} (e : ρ.getD i none = some v) (h : Q v σ) : wpE B C (.loc i p) ρ σ Q := aZ (P := fun v => Q v σ) e h
theorem H4 {e : Ex} {r : Exs} (h : wpE B C e ρ σ fun v σ => Hb B C r ρ σ fun vs σ => Qs (v :: vs) σ) : Hb B C (.cons e r) ρ σ Qs := h
theorem Mn {es : Exs} (h : Hb B C es ρ σ Qs) : Hb B C es ρ σ Qs := h
end
section
variable {h0 : Heap} {prog : Program} {w : World} {mg mb : Str → Option Value} (G : Gd (KK w) h0 mg mb) {n : Nat}
theorem La {l : List Int} {k : Nat} {v : Int} (h : k < l.length) : l.take k ++ [v] ++ l.drop (k + 1) = l.set k v := by
 rw [List.set_eq_take_append_cons_drop, if_pos h, List.append_assoc]; rfl
set_option maxHeartbeats 2000000 in
include G in
theorem gS {τ : Aa} {sc hp dl : Addr} {ds : List Int} {ra gv x f : Addr} {m : Nat} {t b : Int} {r0 : R3} {L0 : LC} {k : Nat} {ρ : Loc} {σ : Aa} {R : V → Aa → Prop} {v5 : V} {p5 : Pos} (hm : m = 2 ∨ m = 3) (B : TB t b) (sm : r0.Sm) (fl : m = 2 → r0.flat) (hW : r0.det ≠ 0) (hk : k < 12)
  (hf : τ f = some (iL L0.sizes)) (s0 : Sml m L0) (l0 : L0.sizes.length = m + 1) (h : Z2 h0 τ sc hp dl ds ra gv x f m t b r0 (pr L0) k ρ σ) :
  Di (Bs h0) (CC prog w h0 (n + 9)) aF (D4 (.one 5 p5) [v5] ρ) σ (fun ρ σ => Z2 h0 τ sc hp dl ds ra gv x f m t b r0 (pr L0) (k + 1) ρ σ) R := by
 obtain ⟨u5, u11, u13, u14, u15, u16, M, A, L, cnt, rfl, S, D, hc, hp'⟩ := h
 have g := D.good B (ln 0x222db00cb011 [k] hk) fl
 have b0 : 0 < b := by have := B.t0; have := B.tb; exact o50 ‹_› this
 have t0 := B.t0
 have t9 : t ≤ 67108864 := by have := B.tb; have := B.b9; exact lz 0x222240000007fb0640000007fb161062 [t, b] ‹_› this
 have b9 := B.b9
 have ms := D.small hm
 have hKB := Gb
 show Di _ _ aF (slots sc hp ra gv x m t b r0.det (cnt : Int) (some v5) u11 (some (.ref f)) u13 u14 u15 u16 none none none none) σ _ R
 obtain ⟨c, c0, o⟩ := S.odd
 refine Go (n := n + 8) G S.hpB o (S.ext _ _ S.dls) S.dlh c0 (show (0 : Int) < (m : Int) - 1 by exact Or.elim hm (fun zt2 => ln 0x2121b0ec0b72b021 [m] zt2) (fun zt2 => ln 0x2121b0ec0b73b021 [m] zt2)) fun v σ1 v0 v9 e1 o1 => ?_
 have S1 := S.rake o e1 o1 (o64 c0)
 obtain ⟨kk, hkk, k1, k2⟩ : ∃ kk : Nat, 1 + v = (kk : Int) ∧ 0 < kk ∧ kk < m := Ay ((1 + v).toNat) (lq 0x22120e01ba801ba0e81 [(1 + v).toNat] [v] (ltn (1 + v) (lz 0x22201ba0b600b61 [v] v0))) (lq 0x212200b101ba0e800b62 [(1 + v).toNat] [v] v0 (ltn (1 + v) (lz 0x22201ba0b600b61 [v] v0))) (lq 0x222210101ba0e81b1ec072 [(1 + v).toNat, m] [v] v9 (ltn (1 + v) (lz 0x22201ba0b600b61 [v] v0)))
 refine CC.up (n := n + 2) (Hs (n := n) G S1.lat g.hb (by rw [g.ls]; exact o66 hm fl hW) fun bf σ2 b2 n2 e2 y2 => ?_) (o40)
 have S2 := S1.extE e2
 have ap := S1.apart n2
 obtain ⟨c2, c20, o2⟩ := S2.odd
 conv => whnf
 rw [hkk]
 refine Go (n := n + 8) G S2.hpB o2 (S2.ext _ _ S2.dls) S2.dlh c20 (show (0 : Int) < (kk : Int) by exact lq 0x22220e0b70e01ba800b62 [kk] [v] v0 hkk) fun j σ3 j0 jk e3 o3 => ?_
 have S3 := S2.rake o2 e3 o3 (o64 c20)
 have y3 := e3 _ _ ap.2 y2
 obtain ⟨jn, rfl, j1⟩ : ∃ jn : Nat, j = (jn : Int) ∧ jn < kk := iEA j.toNat (lq 0x22120e0800e81 [j.toNat] [j] (ltn j (lz 0x22200b600b61 [j] j0))) (by lia)
 clear e1 o1 o S1 n2 e2 y2 o2 S2 e3 o3 v0 v9 hkk j0 jk
 have up := g.up k2 k1
 refine U0 (join (P := (fun ρ σ' => ∃ L' M' A' du, ∃ cnt' : Nat, ρ = slots sc hp ra gv x m t b r0.det (cnt' : Int) (some v5) (some (.int (kk : Nat))) (some (.ref f)) (some (.ref bf)) (some (.int (jn : Nat))) (some (.ref du)) u16 none none none none ∧ LS h0 τ hp dl ds ra gv (r0.rw m) x M' σ' A' L' ∧ DI m t b r0.det r0 (k + 1) L' ∧ cnt' ≤ k + 1 ∧ b ^ cnt' * pr L' ≤ t ^ cnt' * pr L0 ∧ σ' du = some (iL L'.sizes))) (F := fun N => wpS _ _ _ _ _ N _) ?_ ?_)
 ·intro N hN
  refine And.intro (S3.lat.self.inst) (?_)
  refine CC.up (n := n + 5) (Ht G S3.lat g.hb k1 up.hk up.hkl up.hks fun σ4 e4 => ?_) (ln 0x229b0a5b0a00 [n])
  have S4 := S3.extE e4
  have y4 := e4 _ _ y3
  refine And.intro (fun e5 => ?_) (fun e5 => ?_)
  ·skip
   refine And.intro (S4.lat.self.inst) (?_)
   refine CC.up (n := n + 8) (bY G S4.lat (g.sh (by exact Or.elim hm (fun zt2 => ln 0x2223b002b021 [m] zt2) (fun zt2 => ln 0x2223b003b021 [m] zt2)) k2 j1) fun A' σ5 x5 l5 => ?_) (ln 0x229b0a8b0a00 [n])
   have gr : Gu M σ4 M σ5 := ⟨fun _ h => h, fun _ h => .inl h, x5⟩
   obtain ⟨D', sz⟩ := D.short hm k2 j1
   refine And.intro (rfl) (?_)
   refine hN _ _ (E8 _ M A' bf cnt ⟨rfl, S4.grow gr l5, D', ln 0x2221b1a001001 [cnt, k] hc, ?_, ?_⟩)
   ·have e : pr (Bq L kk jn) = pr L := by unfold pr; rw [sz]
    rw [e]; exact hp'
   ·rw [sz]; exact (gr.out ap.1 y4).2
  ·obtain ⟨D', lt, pl⟩ := D.exch B hm k2 k1 e5
   have ex := g.ex (by exact Or.elim hm (fun zt2 => ln 0x2223b002b021 [m] zt2) (fun zt2 => ln 0x2223b003b021 [m] zt2)) k2 k1
   have gx := D'.good B (ln 0x222db1b0a0cb011 [k] hk) fl
   refine And.intro (S4.lat.self.inst) (?_)
   refine CC.up (n := n + 7) (Kq G S4.lat ex.hb ex.hk0 ex.hk ex.hp9 ex.hkr ex.hkl ex.hkm ex.hil ex.hks ex.hz ex.hz' fun M' A' σ5 m1 m2 x5 l5 => ?_) (ln 0x229b0a7b0a00 [n])
   have gr : Gu M σ4 M' σ5 := ⟨m1, m2, x5⟩
   have S5 := S4.grow gr l5
   have y5 := (gr.out ap.1 y4).2
   obtain ⟨ss, hss, hS⟩ := l5.sizes
   obtain ⟨z, z1, z2⟩ := hS.at (i := kk) (by rw [gx.ls]; exact o73 k2)
   have ls := g.ls
   have sx : (exL L kk).sizes = L.sizes.set kk (gt (exL L kk).sizes kk) := by
    show L.sizes.set kk (Lf L kk) = _
    congr 1
    exact (Iy (bD k2 ls)).symm
   generalize hnw : gt (exL L kk).sizes kk = nw at *
   refine And.intro (rfl) (?_)
   refine iEA _ y5 ?_
   rw [Js (e := kk) rfl, ← List.map_take]
   intro l1 σ6 b6 n6 e6 y6
   refine (l5.ext e6).aSx ?_
   refine ixL (e6 _ _ hss) kk z rfl z1 ?_
   refine CC.up (n := n + 1) (Jv G (z2.ext e6) (by rw [← hnw]; exact (gx.hb.sizes _).mono (ln 0x25204800400005fb021 [KB] hKB)) fun σ7 e7 => ?_) (o41)
   conv => whnf
   intro l2 σ8 b8 n8 e8 y8
   refine C5 ((L.sizes.take kk).map .int) ([.int nw]) ⟨e8 _ _ (e7 _ _ y6), y8, by rw [List.length_map, List.length_take]; show _ + 1 ≤ 16777216; exact fB hm fl hW k2 ls⟩ ?_
   intro l3 σ9 b9' n9 e9 y9
   have E9 : Ext σ5 σ9 := ((e6.trans e7).trans e8).trans e9
   refine iEA _ (E9 _ _ y5) ?_
   rw [Hr (e := kk + 1) (o8), ← List.map_drop]
   intro l4 σ10 b10 n10 e10 y10
   refine C5 _ _ ⟨e10 _ _ y9, y10, by simp; show _ ≤ 16777216; exact fA hm fl hW k2 ls⟩ ?_
   intro du σ11 b11 n11 e11 y11
   have E11 : Ext σ5 σ11 := (E9.trans e10).trans e11
   have yd : σ11 du = some (iL (exL L kk).sizes) := by
    rw [y11, sx, ← La (bD k2 ls)]
    show _ = some (Ed.list ((L.sizes.take kk ++ [nw] ++ L.sizes.drop (kk + 1)).map V.int))
    rw [List.map_append, List.map_append]; rfl
   have S11 := S5.extE E11
   have gk : gt (exL L kk).sizes kk = nw := hnw
   conv => whnf
   rw [show (cnt : Int) + 1 = ((cnt + 1 : Nat) : Int) by (exact o8)]
   refine ixL yd kk (.int nw) rfl (by rw [List.getElem?_map, Bg (by rw [gx.ls]; exact ln 0x2221b1a011011 [kk, m] k2), hnw]; rfl) ?_
   refine And.intro (.inl (Ea (o9 b0 b9) b9)) (?_)
   refine ixL (E11 _ _ y5) kk (.int (gt L.sizes kk)) rfl (by rw [List.getElem?_map, Bg (bD k2 ls)]; rfl) ?_
   refine And.intro (.inl (Ea (o9 t0 t9) t9)) (?_)
   refine And.intro (fun e12 => ?_) (fun e12 => ?_)
   ·have e12 := of_decide_eq_true e12; exact False.elim (lz 0x2220f0161072 [b * nw, t * gt L.sizes kk] lt e12)
   ·skip
    exact hN _ _ (E8 _ M' A' du (cnt + 1) ⟨rfl, S11, D', o99 hc, Te (o9 b0 b9) (o9 t0 t9) hp' pl, yd⟩)
 clear S3 y3 up g ms D hp' S
 rintro _ σ3 ⟨L', M', A', du, cnt', rfl, S, D, hc, hp', yd⟩
 have g := D.good B (ln 0x222db1b0a0cb011 [k] hk) fl
 have ms := D.small hm
 refine CC.up (n := n + 2) (Hs (n := n) G S.lat g.hb (by rw [g.ls]; exact o66 hm fl hW) fun nw σ4 b4 n4 e4 y4 => ?_) (o40)
 have S4 := S.extE e4
 refine C5 L'.sizes L'.sizes ⟨y4, e4 _ _ yd⟩ ?_
 refine And.intro (fun q => ?_) (fun _ => ?_)
 ·exact absurd (of_decide_eq_true q) (fun z => z rfl)
 refine iEA _ y4 ?_
 refine ⟨by rw [List.length_map, List.length_map]; show _ ≤ 16777216; have := g.ls; exact Or.elim hm (fun zt2 => ln 0x222210000007fb001b1a022b122 [L'.sizes.length, m] zt2 this) (fun zt2 => ln 0x222210000007fb001b1a023b122 [L'.sizes.length, m] zt2 this), Ar (fun k acc υ => acc = [] ∧ Ext σ4 υ) ⟨rfl, .refl⟩ ?_ ?_ ?_⟩
 ·rintro k acc υ ⟨rfl, he⟩
  exact ⟨he _ _ y4, Nat.zero_le _⟩
 ·rintro i acc υ it ⟨rfl, he⟩ hit
  obtain ⟨v, hv, rfl⟩ := Df hit
  rw [List.getElem?_map] at hv
  obtain ⟨z, hz, rfl⟩ := Option.map_eq_some_iff.mp hv
  refine And.intro (fun e => ?_) (fun _ => ⟨rfl, he⟩)
  exfalso
  have e := of_decide_eq_true e
  have hi : i < L'.sizes.length := by
   rcases Nat.lt_or_ge i L'.sizes.length with q | q
   ·exact q
   ·rw [List.getElem?_eq_none q] at hz; cases hz
  rw [Bg hi] at hz; cases hz
  have := g.pos i (by have := g.ls; exact ln 0x22221b1a011b1a222012 [i, m, L'.sizes.length] hi this)
  exact lz 0x2220f00b71b072 [gt L'.sizes i] e this
 rintro acc σ5 ⟨rfl, he⟩
 intro ea σ6 b6 n6 e6 y6
 conv => whnf
 intro eb σ7 b7 n7 e7 y7
 refine C5 ([]) ([]) ⟨e7 _ _ y6, y7⟩ ?_
 refine And.intro (fun q => absurd (of_decide_eq_true q) (fun z => z rfl)) (fun _ => ?_)
 have E7 : Ext σ4 σ7 := (he.trans e6).trans e7
 have S7 := S4.extE E7
 refine And.intro (⟨o39, ?_⟩) (?_)
 ·have := Ea (show 0 ≤ b by exact o9 b0 b9) b9
  have := Nat.mul_le_mul_right cnt' this
  rw [← Int.natCast_mul]
  lia
 refine CC.up (n := n + 1) (Zq G ms g.ls (E7 _ _ y4) fun σ8 e8 => ?_) (o41)
 have S8 := S7.extE e8
 refine And.intro (.inr (.inl (Ea (by have := ms.p0; exact o32 this) ms.p9))) (?_)
 refine ⟨⟨o39, ?_⟩, ?_⟩
 ·have := Ea (show 0 ≤ t by exact o9 t0 t9) t9
  have := Nat.mul_le_mul_right cnt' this
  rw [← Int.natCast_mul]
  lia
 refine CC.up (n := n + 1) (Zq G s0 l0 (S8.ext _ _ hf) fun σ9 e9 => ?_) (o41)
 have S9 := S8.extE e9
 refine And.intro (.inr (.inl (Ea (by have := s0.p0; exact o32 this) s0.p9))) (?_)
 refine ⟨fun q => ?_, fun _ => ?_⟩
 ·have q := of_decide_eq_true q
  rw [Int.toNat_natCast] at q
  exact False.elim (lz 0x2220f0171062 [b ^ cnt' * pr L', t ^ cnt' * pr L0] hp' q)
 refine J0 ?_
 refine Uz ?_
 refine Xm ?_
 refine Mn ?_
 refine H4 ?_
 refine Rl (by rfl) ?_
 refine Mn ?_
 refine H4 ?_
 refine Kc (n := n + 8) G (by rfl) S9.lat g.hb (by rw [g.lr]; exact dD hm fl hW) (fun i hi => by rw [g.lr] at hi; rw [g.lrk i hi]; exact dD hm fl hW) fun fa σ10 e10 hM => ?_
 have S10 := S9.extE e10
 refine CC.up (n := n + 4) (Wx G hm sm hW g (S10.rws.ext S10.ext) hM fun σ11 e11 => ?_) (ln 0x229b0a4b0a00 [n])
 refine And.intro (fun q => absurd q (by decide)) (fun _ => ?_)
 exact Dj _ _ _ _ _ _ M' (Bn A' L' cnt' rfl (S10.extE e11) D hc hp')
end
theorem Xn {B : Addr → Prop} {C : V → List V → Aa → (V → Aa → Prop) → Prop} {ρ : Loc} {σ : Aa} {Q : V → Aa → Prop} {o : CmpOp} {l r : Ex} {p : Pos} (h : wpE B C l ρ σ fun a σ => wpE B C r ρ σ fun b σ => Q2 o a b σ fun t => Q (.bool t) σ) : wpE B C (.cmp o l r p) ρ σ Q := h
theorem Ow {x y : Int} (h : Bnd (2 * KB + 2) x) (h' : Bnd (2 * KB + 2) y) : Hh x y := by
 have h1 := Hu h; have h2 := Hu h'
 have := Gb
 exact .inr (.inr (by lia))
section
variable {h0 : Heap} {prog : Program} {w : World} {mg mb : Str → Option Value} (G : Gd (KK w) h0 mg mb) {n : Nat}
noncomputable def gR : Sts := W0 Eb.tl.tl.tl.tl.tl.tl.tl.hd
set_option maxHeartbeats 2000000 in
include G in
theorem Tr {τ : Aa} {sc hp dl : Addr} {ds : List Int} {ra gv x ef : Addr} {m : Nat} {t b W cnt : Int} {rows0 : List (List Int)} {L : LC} {k : Nat} {M : Addr → Prop} {A : LA} {σ : Aa} {N : Loc → Aa → Prop} {R : V → Aa → Prop} {u5 u12 u13 u14 u15 u16 u17 u18 u20 : Option V} (hm : m = 2 ∨ m = 3) (B : TB t b) (g : H1 m t b W rows0 L) (ms : Sml m L)
  (hk : 1 ≤ k) (hkm : k < m) (S : LS h0 τ hp dl ds ra gv rows0 x M σ A L) (he : σ ef = some (iL L.sizes))
  (h2 : 2 * ((gt (gl L.parts k) (k - 1)).natAbs : Int) ≤ gt L.sizes k) (h1 : t * gt L.sizes k * gt L.sizes k ≤ b * (gt L.sizes (k + 1) * gt L.sizes (k - 1) + gt (gl L.parts k) (k - 1) * gt (gl L.parts k) (k - 1)))
  (hN : ∀ σ' u, Ext σ σ' → N (slots sc hp ra gv x m t b W cnt u5 (some (.int (k : Nat))) u12 u13 u14 u15 u16 u17 u18 (some (.ref ef)) u) σ') :
  Di (Bs h0) (CC prog w h0 (n + 1)) gR (slots sc hp ra gv x m t b W cnt u5 (some (.int (k : Nat))) u12 u13 u14 u15 u16 u17 u18 (some (.ref ef)) u20) σ N R := by
 have b0 : 0 < b := by have := B.t0; have := B.tb; exact o50 ‹_› this
 have t0 := B.t0
 have t9 : t ≤ 67108864 := by have := B.tb; have := B.b9; exact lz 0x222240000007fb0640000007fb161062 [t, b] ‹_› this
 have b9 := B.b9
 have hKB := Gb
 have ls := g.ls
 have lp := S.lat.len_ps
 have glp := g.lp
 refine Ec (S.lat.partsL.at (i := k) (ln 0x21221012122012 [k, L.parts.length, m] hkm glp)) fun _ vs v1 v2 => ?_
 refine zEA (v2.at (i := k - 1) (by rw [g.lpk k hkm]; exact ln 0x22210111b0a21 [k - 1, k] (lsc k 1 (ln 0x22201b001b01 [k] hk)))) fun vp p1 p2 => ?_
 have bz : ∀ i, Bnd (2 * KB + 2) (gt L.sizes i) := fun i => (g.hb.sizes i).mono (ln 0x2122b028a00400005fb021 [KB] hKB)
 have bp : ∀ i j, Bnd (2 * KB + 2) (gt (gl L.parts i) j) := fun i j => (g.hb.parts i j).mono (ln 0x2122b028a00400005fb021 [KB] hKB)
 refine S.lat.aPx ?_
 refine ixR S.lat.parts k rfl (ln 0x211221012323122013 [k, A.ps.length, m, L.parts.length] hkm lp glp) ?_
 refine ixL v1 (k - 1) vp (ln 0x22121e1b0ec801b1a21 [k, k - 1] (lsc k 1 (ln 0x22201b001b01 [k] hk))) p1 ?_
 refine Jv G p2 ((g.hb.parts _ _).mono (ln 0x25204800400005fb021 [KB] hKB)) fun σ1 e1 => ?_
 have he1 := e1 _ _ he
 have ix : ∀ i, i < m + 1 → (L.sizes.map V.int)[i]? = some (.int (gt L.sizes i)) := fun i hi => by rw [List.getElem?_map, Bg (by exact ln 0x22121011b2a011b2a122 [i, L.sizes.length, m] ls hi)]; rfl
 refine ixL he1 (k + 1) _ (o8) (ix _ (ln 0x2221b1a1b0a11011 [k, m] hkm)) ?_
 refine ixL he1 (k - 1) _ (ln 0x22121e1b0ec801b1a21 [k, k - 1] (lsc k 1 (ln 0x22201b001b01 [k] hk))) (ix _ (ln 0x22221b1a0121b0a21212 [k - 1, m, k] hkm (lsc k 1 (ln 0x22201b001b01 [k] hk)))) ?_
 refine And.intro (Ow (bz _) (bz _)) (?_)
 refine And.intro (Ow (bp _ _) (bp _ _)) (?_)
 refine And.intro (.inl (Ea (o9 b0 b9) b9)) (?_)
 refine ixL he1 k _ rfl (ix _ (ln 0x2221b1a011011 [k, m] hkm)) ?_
 refine And.intro (.inl (Ea (o9 t0 t9) t9)) (?_)
 refine ixL he1 k _ rfl (ix _ (ln 0x2221b1a011011 [k, m] hkm)) ?_
 conv => whnf
 refine zA (ms.sz k hkm) fun q1 q2 => ?_
 refine ⟨.inr (.inl (Ea (o9 q1 q2) q2)), ?_⟩
 refine ⟨fun q => ?_, fun _ => ?_⟩
 ·have q := of_decide_eq_true q; exact False.elim (lz 0x2220f0171062 [t * gt L.sizes k * gt L.sizes k, b * (gt L.sizes (k + 1) * gt L.sizes (k - 1) + gt (gl L.parts k) (k - 1) * gt (gl L.parts k) (k - 1))] h1 q)
 refine And.intro (.inl (Ea (by decide) (by decide))) (?_)
 refine ixL he1 k _ rfl (ix _ (ln 0x2221b1a011011 [k, m] hkm)) ?_
 refine ⟨fun q => ?_, fun _ => ?_⟩
 ·have q := of_decide_eq_true q; exact False.elim (lq 0x2220f0e280700e2862 [(gt (gl L.parts k) (k - 1)).natAbs] [gt L.sizes k] h2 q)
 exact hN σ1 _ e1
set_option maxHeartbeats 2000000 in
include G in
theorem Y6 {τ : Aa} {sc hp dl : Addr} {ds : List Int} {ra gv x f : Addr} {m : Nat} {t b P0 : Int} {r0 : R3} {k : Nat} {ρ : Loc} {σ : Aa} {N : Loc → Aa → Prop} (hm : m = 2 ∨ m = 3) (B : TB t b) (sm : r0.Sm) (fl : m = 2 → r0.flat) (hW : r0.det ≠ 0) (hk : k ≤ 12)
  (h : Z2 h0 τ sc hp dl ds ra gv x f m t b r0 P0 k ρ σ) :
  Di (Bs h0) (CC prog w h0 (n + 9)) Eb.tl.tl.tl ρ σ N (fun v _ => v = .bool true) := by
 obtain ⟨u5, u11, u13, u14, u15, u16, M, A, L, cnt, rfl, S, D, hc, hp'⟩ := h
 have g := D.good B (o74 hk) fl
 have ms := D.small hm
 have hKB := Gb
 obtain ⟨rl, rl'⟩ := Qe hm r0
 refine CC.up (n := n + 2) (Hs (n := n) G S.lat g.hb (by rw [g.ls]; exact o66 hm fl hW) fun af σ1 b1 n1 e1 y1 => ?_) (o40)
 have S1 := S.extE e1
 have ap := S.apart n1
 obtain ⟨D1, D2, i0, q3, q2⟩ := Ta D hk
 refine And.intro (S1.lat.self.inst) (?_)
 refine eG (n := n) G (RJ m t b r0.det r0 D1 D2) S1.lat i0 (fun _ _ _ h hl => V0 B hm fl h hl) fun M' A' L' σ2 m1 m2 x2 l2 fin => ?_
 have gr : Gu M σ1 M' σ2 := ⟨m1, m2, x2⟩
 have S2 := S1.grow gr l2
 have y2 := (gr.out ap.1 y1).2
 obtain ⟨w', k', hJ, hkl⟩ := fin
 have ms' := hJ.small hm
 obtain ⟨g', pl, fin⟩ := Yi (L := L) B hm fl hJ hkl q3 q2
 refine And.intro (rfl) (?_)
 refine Mn ?_
 refine H4 ?_
 refine Kc (n := n + 8) G (by rfl) S2.lat g'.hb (by rw [g'.lr]; exact bC hm fl hW q3 q2) (fun i hi => by rw [g'.lr] at hi; rw [g'.lrk i hi]; exact bC hm fl hW q3 q2) fun fa σ3 e3 hM => ?_
 have S3 := S2.extE e3
 refine CC.up (n := n + 2) (Hs (n := n) G S3.lat g'.hb (by rw [g'.ls]; exact Or.elim hm (fun zt2 => ln 0x2223e83fb1b0a02b021 [m] zt2) (fun zt2 => ln 0x2223e83fb1b0a03b021 [m] zt2)) fun ef σ4 b4 n4 e4 y4 => ?_) (o40)
 have S4 := S3.extE e4
 refine CC.up (n := n + 1) (Zq G ms' g'.ls y4 fun σ5 e5 => ?_) (o41)
 refine CC.up (n := n + 1) (Zq G ms g.ls (e5 _ _ (e4 _ _ (e3 _ _ y2))) fun σ6 e6 => ?_) (o41)
 have S6 := (S4.extE e5).extE e6
 have y6 := e6 _ _ (e5 _ _ y4)
 refine And.intro (fun q => ?_) (fun _ => ?_)
 ·have q := of_decide_eq_true q; exact False.elim (lz 0x2220f0171062 [pr L', pr L] pl q)
 refine CC.up (n := n + 4) (Wx G hm sm hW g' (S6.rws.ext S6.ext) (((hM.ext e4).ext e5).ext e6) fun σ7 e7 => ?_) (ln 0x229b0a4b0a00 [n])
 have S7 := S6.extE e7
 have y7 := e7 _ _ y6
 refine And.intro (fun q => absurd q (by decide)) (fun _ => ?_)
 refine And.intro (⟨⟨by decide, by decide⟩, by lia, by lia⟩) (?_)
 refine Ar (fun i ρ υ => ∃ u11 u20, ρ = slots sc hp ra gv x m t b r0.det (cnt : Int) u5 u11 (some (.ref f)) u13 u14 u15 u16 (some (.ref af)) (some (.ref fa)) (some (.ref ef)) u20 ∧ Ext σ7 υ) (C5 _ _ rfl .refl) (fun _ _ _ _ => trivial) ?_ ?_
 ·rintro i _ υ it ⟨u11, u20, rfl, he⟩ hit
  obtain ⟨rfl, hlt⟩ := Bx hit
  obtain ⟨kk, hkk, k1, k2⟩ : ∃ kk : Nat, (1 : Int) + (i : Nat) = (kk : Int) ∧ 1 ≤ kk ∧ kk < m := Ay (i + 1) (ln 0x221b0ae0e1ba80 [i]) (ln 0x221b0a1b00 [i]) (ln 0x22211b0a11e0e1ba71 [i, m] hlt)
  rw [hkk]
  obtain ⟨f1, f2⟩ := fin kk k1 k2
  exact (Tr (n := n + 8) G hm B g' ms' k1 k2 (S7.extE he) (he _ _ y7) f1 f2 fun σ' u e => C5 _ _ rfl (he.trans e))
 ·rintro _ υ ⟨u11, u20, rfl, he⟩
  refine J0 ?_
  refine Xn ?_
  refine Rl (by rfl) ?_
  refine J0 ?_
  have S8 := S7.extE he
  refine Iw (n := n + 8) G (by rfl) (S8.rws.ext S8.ext) (Mu hm sm (by have := Ch; exact ln 0x21201b07ffff86fb021 [ML] this)) (by exact Or.elim hm (fun zt2 => ln 0x22223e83fb001022b122 [(R3.rw m r0).length, m] zt2 rl) (fun zt2 => ln 0x22223e83fb001023b122 [(R3.rw m r0).length, m] zt2 rl)) (fun i hi => by rw [rl' i (o81 rl hi)]; exact bC hm fl hW q3 q2) fun g2 σ9 e9 hG => ?_
  exact iEA _ ⟨((S8.giv.ext S8.ext).ext e9).tree, hG.tree⟩ rfl
set_option maxHeartbeats 2000000 in
include G in
theorem Y4 {τ : Aa} {sc hp dl : Addr} {ds : List Int} {ra gv x : Addr} {m : Nat} {t b : Int} {r0 : R3} {L : LC} {M : Addr → Prop} {A : LA} {σ : Aa} {N : Loc → Aa → Prop} {u5 u11 : Option V} (hm : m = 2 ∨ m = 3) (B : TB t b) (sm : r0.Sm) (fl : m = 2 → r0.flat) (hW : r0.det ≠ 0)
  (S : LS h0 τ hp dl ds ra gv (r0.rw m) x M σ A L) (D : DI m t b r0.det r0 0 L) (hl : gt L.sizes m = r0.det * r0.det) :
  Di (Bs h0) (CC prog w h0 (n + 9)) Eb (slots sc hp ra gv x m t b r0.det 0 u5 u11 none none none none none none none none none) σ N (fun v _ => v = .bool true) := by
 have g := D.good B (lz 0x22db0b00 []) fl
 have ms := D.small hm
 have hKB := Gb
 refine CC.up (n := n + 2) (Hs (n := n) G S.lat g.hb (by rw [g.ls]; exact o66 hm fl hW) fun f σ1 b1 n1 e1 y1 => ?_) (o40)
 have S1 := S.extE e1
 have ap := S.apart n1
 obtain ⟨τ', S', hf⟩ := S1.freeze y1 ap.1 ap.2
 have dm := Pz sm
 refine And.intro (fun q => ?_) (fun _ => ?_)
 ·exact absurd (of_decide_eq_true q) hW
 refine Ix _ m (.int (gt L.sizes m)) ⟨.inl y1, .inr (by rw [List.length_map, g.ls]; exact ln 0x221b0ae0ec1bd80 [m]), by rw [List.getElem?_map, Bg (by rw [g.ls]; exact o53)]; rfl⟩ ?_
 refine And.intro (⟨by decide, ?_⟩) (?_)
 ·have : bitsI r0.det ≤ 64 := Ce (by omega) (by lia)
  lia
 refine ⟨fun q => ?_, fun _ => ?_⟩
 ·have q := of_decide_eq_true q
  exfalso
  apply q
  rw [hl]
  show _ = r0.det ^ 2
  rw [Int.pow_succ, Int.pow_succ, Int.pow_zero, Int.one_mul]
 obtain ⟨c, c0, o⟩ := S'.odd
 refine Go (n := n + 8) G S'.hpB o (S'.ext _ _ S'.dls) S'.dlh c0 (show (0 : Int) < 13 by decide) fun v σ2 v0 v9 e2 o2 => ?_
 have S2 := S'.rake o e2 o2 (o64 c0)
 refine And.intro (⟨by lia, by lia⟩) (?_)
 have ln : (J1 0 v).length ≤ 12 := by rw [Bp]; exact lq 0x2222cb000b0c0e8db072 [(v - 0).toNat] [v] v9 (ltn (v - 0) (lz 0x2220b0c0b600b61 [v] v0))
 refine Ar (fun k ρ υ => Z2 h0 τ' sc hp dl ds ra gv x f m t b r0 (pr L) k ρ υ) (Dj u5 u11 none none none none M (Bn A L 0 rfl S2 D (Nat.le_refl _) (by rw [Int.pow_zero, Int.pow_zero]; exact Int.le_refl _))) (fun _ _ _ _ => trivial) ?_ ?_
 ·intro k ρ υ it hI hit
  obtain ⟨rfl, hlt⟩ := Bx hit
  have hlt : (k : Int) < v := by exact lq 0x22200e700e0ba71 [k] [v] hlt
  exact gS (n := n) G hm B sm fl hW (lq 0x2222cb0100e0ba7db072 [k] [v] v9 ‹_›) hf ms g.ls hI
 ·intro ρ υ hI
  exact Y6 (n := n) G hm B sm fl hW ln hI
end
noncomputable def lawTry : Stmt := .Try (C8 Bu Cw) [.ExceptHandler (some (.Name "OutOfRange" ⟨338, 11, 338, 21⟩)) none [.Return (some (.Compare (.Name "worth" ⟨339, 15, 339, 20⟩) [.Eq] [.Constant (.int 0) 0 ⟨339, 24, 339, 25⟩] ⟨339, 15, 339, 25⟩)) ⟨339, 8, 339, 25⟩] ⟨338, 4, 339, 25⟩] [] [] ⟨335, 4, 339, 25⟩
noncomputable def Y7 : List Stmt := C8 Bu Hv ++ (lawTry :: (C8 Bu Eb ++ []))
theorem Z0 {v : Value} (h : Af v = .bool true) : v = .bool true := by
 cases v <;> first | (cases h; rfl) | cases h
theorem Od {n : Nat} (h : n ≤ 40) : Cy callerA n := ⟨by show 1 + claimMargin + n ≤ 900; have : claimMargin = 300 := rfl; exact ln 0x22223843fb101baa012c3fb02282fb102 [claimMargin, n] h this, by show 4 + 100 * n ≤ 5000; exact ln 0x2c82f213884fb0642f84ba0282fb001 [n] h, rfl⟩
theorem Tj (P : Params) : (KO P).lookup 214 = some { cls := .type "tuple", data := .seq #[.bool false, .ref 213] } := by kernel_rfl
theorem V4 (P : Params) : (KO P).lookup 213 = some { cls := .type "list", data := .seq #[] } := by kernel_rfl
section
variable {prog : Program} {w : World} {mg mb : Str → Option Value} {s : Shared} (G : Gd (KK w) s.heap mg mb) {bmB : List Value} {newId B initId : String}
include G in
set_option maxHeartbeats 1000000 in
theorem We (O : OwnCls "OutOfRange" 49 bmB newId mg s.heap) (FB : ExcBaseFacts B newId initId bmB) {fa sc : Addr} {o : Obj} {fd : FuncData} (ho : s.heap.get? fa = some o) (hd : o.data = .func fd) (hbody : fd.body = .stmts Y7) (hcd : s.heap.CodeRec fd.code fd.qualname)
  (hclo : fd.closure = []) (hgl : fd.globals = mainGlobals) (hbi : fd.builtins = builtinsNs) (hk : fd.scope.kind = .function) (hsn : An (fd.scope.names.map (·.1)) = true) (hco : fd.scope.isCoroutine = false) (hgen : fd.scope.isGenerator = false)
  (hbind : ∀ v, bindArgs fd ⟨[v], []⟩ = pure [((Str.ofString "script"), v)]) (hs : fd.scope.names.lookup (Str.ofString "script") = some NameKind.local)
  (k1 : Fs (fun x => fd.scope.names.lookup x) Bu Hv = true) (k2 : Fs (fun x => fd.scope.names.lookup x) Bu Cw = true) (k3 : Fs (fun x => fd.scope.names.lookup x) Bu Eb = true)
  (k4 : fd.scope.names.lookup (Str.ofString "OutOfRange") = some NameKind.globalImplicit) (k5 : fd.scope.names.lookup (Str.ofString "worth") = some NameKind.local)
  {vals : List Value} {script : List Int} (hL : s.heap.PlainList sc vals.toArray) (hI : vals.map Af = script.map .int) (h63 : script.length ≤ 63) :
  codeAny (model prog w) callerA (.call (.ref fa) ⟨[.ref sc], []⟩) (fun r s' => r = .ok (.ret (.bool true)) ∧ (∀ b o, s.heap.get? b = some o → s'.heap.get? b = some o) ∧ s'.os = s.os ∧ s'.gens = s.gens) s := by
 have n1 : s.heap.get? 214 = some { cls := .type "tuple", data := .seq #[.bool false, .ref 213] } := G.X _ _ (Tj _)
 have n2 : s.heap.get? 213 = some { cls := .type "list", data := .seq #[] } := G.X _ _ (V4 _)
 obtain ⟨nn, hL'⟩ := hL
 have d1 : sc ≠ 214 := fun q => by rw [q, n1] at hL'; simp at hL'
 let σ : Aa := fun a => if a = sc then some (iL script) else if a = 214 then some (.tup [.bool false, .ref 213]) else if a = 213 then some (.list []) else none
 have kk : Ok s.heap σ s := by
  refine ⟨fun _ _ e => e, fun a ob e => ?_⟩
  have e : (if a = sc then some (iL script) else if a = 214 then some (.tup [.bool false, .ref 213]) else if a = 213 then some (.list []) else none) = some ob := e
  split at e
  ·rename_i q; cases e; rw [q]
   exact Ay _ ⟨nn, hL'⟩ hI (by rw [List.length_map]; show _ ≤ 16777216; exact ln 0x22210000007fb003f2fb001 [script.length] h63)
  ·split at e
   ·rename_i q; cases e; rw [q]
    exact Ba _ 0 n1 rfl (by show 2 ≤ 16777216; exact lz 0x2210000007fb2b00 [])
   ·split at e
    ·rename_i q; cases e; rw [q]
     exact Ay _ ⟨0, n2⟩ rfl (by show 0 ≤ 16777216; exact lz 0x2210000007fb0b00 [])
    ·cases e
 have hsc : σ sc = some (iL script) := if_pos rfl
 have hn : IsS (fun _ => False) σ (.ref 214) 0 := by
  refine Br 214 213 rfl ?_ (Ay ([]) ?_ Nrm.nil rfl) (fun q => q)
  ·show (if (214 : Addr) = sc then _ else _) = _
   rw [if_neg (Ne.symm d1), if_pos rfl]; rfl
  ·show (if (213 : Addr) = sc then some (iL script) else _) = _
   split
   ·rename_i q
    rw [← q, n2] at hL'
    have : vals.toArray = #[] := by
     simp only [Option.some.injEq, Obj.mk.injEq, Data.seq.injEq] at hL'
     exact hL'.2.2.1.1.symm
    have : vals = [] := by simpa using this
    rw [this] at hI
    have : script = [] := by simpa using hI.symm
    rw [this]
   ·rw [if_neg (by decide), if_pos rfl]; rfl
 refine Ov (n := 20) G (Od (lz 0x22282fb1b142fba00 [])) kk ho hd hbody hcd hclo hgl hbi hk hsn hco hgen (nm := Bu) (k := 1) (vals := [.ref sc]) (by rfl) (hbind _) (by simp only [Bu, List.take_succ_cons, List.take_zero, List.all_cons, List.all_nil]; rw [hs]; rfl) (by decide) rfl fun env s1 hkd eo ap hf hkind own P1 F R1 => ?_
 have fin : ∀ {s' : Shared}, (∀ b o, s.heap.get? b = some o → s'.heap.get? b = some o) → s'.os = s.os → s'.gens = s.gens → (fun (r : Result) (s' : Shared) => r = Except.ok (Flow.ret (.bool true)) ∧ (∀ b o, s.heap.get? b = some o → s'.heap.get? b = some o) ∧ s'.os = s.os ∧ s'.gens = s.gens) (Except.ok (ε := Value) (Flow.ret (match Flow.ret (.bool true) with | .ret v => v | _ => .none))) s' :=
  fun h1 h2 h3 => ⟨rfl, h1, h2, h3⟩
 have base : ∀ {σ' : Aa} {s' : Shared}, Ah s.heap (Ab env) σ s1 σ' s' → ∀ b o, s.heap.get? b = some o → s'.heap.get? b = some o := fun p b o e =>
  p.keep b o (P1.keep b o e (.inr (by rw [e]; simp)) fun q => q) (.inr (by rw [e]; simp)) fun q => by rw [own b q] at e; cases e
 have hfr : (callerA.deeper env).frames = some [env] := Around.frames_deeper rfl
 have kk1 := kk.post0 P1
 have one := Y5 (prog := prog) (n := 16) (R := fun _ _ => False) G hsc h63 hn (N := fun ρ' σ' => ∃ hp dl ds, ∃ many : Nat, ∃ t b ra gv r0 x M τ A, (many = 2 ∨ many = 3) ∧ TB t b ∧ R3.Sm r0 ∧ (many = 2 → r0.flat) ∧ LS s.heap τ hp dl ds ra gv (r0.rw many) x M σ' A (lkm many r0 t b 0) ∧
  ρ' = slots sc hp ra gv x many t b r0.det 0 none none none none none none none none none none none)
  fun hp dl ds many t b ra gv r0 x M τ σ' A q1 q2 q3 q4 q5 => Dj hp dl ds many t b ra (Du gv r0 x M τ A ⟨q1, q2, q3, q4, q5, rfl⟩)
 rw [H2] at one
 refine Jn G (by rfl) eo ap R1 Hv (by rw [hkd]; exact k1) kk1 F one (fun ρ' σ' s' hN ok2 F2 P2 => ?_) fun _ _ _ q => q.elim
 obtain ⟨hp, dl, ds, many, t, b, ra, gv, r0, x, M, τ, A, hm, TB', sm, fl, S, rfl⟩ := hN
 refine wpAny_execs_cons ?_
 refine U2 (n := 13) G (many := many) (Lk := lkm many r0 t b) O FB (by exact Or.elim hm (fun zt2 => ln 0x2223e83fb002b021 [many] zt2) (fun zt2 => ln 0x2223e83fb003b021 [many] zt2)) R1 ok2 hfr hf eo ap (by rw [hkd]; exact k4) (by rw [hkd]; exact k5) (by rw [hkd]; exact k2) F2 S.lat
  (fun k hk hz => dT TB' hm fl sm k hk hz) (fun k hk hz => dS hm fl k hk hz) (fun k hk hz h0 => Yz hm fl k hk hz h0) (fun s3 q1 q2 q3 => ?_) fun u M' A' σ3 s3 hz gr lat ok3 F3 P3 => ?_
 ·exact fin q1 (q2.trans (P2.os.trans P1.os)) (q3.trans (P2.gens.trans P1.gens))
 ·obtain ⟨hW, D, hl⟩ := bK TB' hm fl sm hz
  have S3 := S.grow gr lat
  have two := Y4 (prog := prog) (n := 11) (N := fun _ _ => False) (sc := sc) (u5 := none) (u11 := u) G hm TB' sm fl hW S3 D hl
  rw [H2] at two
  refine Jn G (by rfl) eo ap R1 Eb (by rw [hkd]; exact k3) ok3 F3 two (fun _ _ _ q => q.elim) fun v σ4 s4 hv P4 => ?_
  obtain rfl := Z0 hv
  exact fin (base ((P2.trans P3).trans P4)) (P4.os.trans (P3.os.trans (P2.os.trans P1.os))) (P4.gens.trans (P3.gens.trans (P2.gens.trans P1.gens)))
end
end Mine
end
noncomputable section
open PySem PySem.W PyProof.Rows PySem.Calls
namespace Mine
theorem Ld {P : Params} {h : Heap} {a : Addr} {vs : List Value} {ns : List Int} (W : Well P h (.ref a) (ofPy (.list (ns.map .int)))) (hl : h.IsList a vs.toArray) : h.PlainList a vs.toArray := by
 have W : Well P h (.ref a) (.list (ofPys (ns.map .int))) := W
 cases W with
 | list ha wa =>
  obtain ⟨o, ho, _, n, hd⟩ := hl
  rw [ha] at ho; cases ho
  obtain ⟨e, _⟩ := Data.seq.inj hd
  exact ⟨0, by rw [ha, e]⟩
theorem L9 : ∀ {vals : List Value} {ns : List Int}, IntsAre vals ns → vals.map Af = ns.map .int
 | _, _, .nil => rfl
 | _, _, .cons n t h => by rw [List.map_cons, List.map_cons, L9 h]; rfl
theorem Yt (P : Params) : excIn (KO P) 49 [.type "Exception", .type "BaseException", .type "object"] "Exception.__new__" = true := by kernel_rfl
end Mine
end
open PySem PySem.W PyProof.Rows PySem.Calls
namespace Mine
set_option maxHeartbeats 4000000 in
theorem walk : WalkO view Ii (fun _ _ => True) (InK KO) lrow.toRowW I9.1 I9.2 (fun f vs => PySem.call f vs) := by
 intro w s₀ s₁ mg mb G Y fa o pm cd doc dV kV ho hd hcd hD hmg hg args vals as hpre hlay hrd hwl hlo
 have KX : (KO w.params).In s₁.heap := Y
 refine Ground.open G ?_
 intro T B D TE TW
 clear D
 wrow_args hpre hlay hrd hwl hlo
 all_goals (
  first | refine callC_kw (enter_call ?_) | refine enter_call ?_ | refine callC_kw (enter_callW ?_) | refine enter_callW ?_
  refine codeAny_mono ?_ (fun _ _ g => GoodW.toG g)
  have hdV : dV = .none := by rcases hD.pos with ⟨_, e⟩ | ⟨e, _⟩; exact e; exact absurd (by kernel_rfl) e
  have hkV : kV = .none := by rcases hD.kw with ⟨_, e⟩ | ⟨e, _⟩; exact e; exact absurd (by kernel_rfl) e
  subst hdV hkV
  refine codeAny_mono (We (bmB := [.type "Exception", .type "BaseException", .type "object"]) (newId := "Exception.__new__") ⟨KX, T.g, T.b, T.nolimit, T.builtins, kf _⟩ (own_of_in KX (topRead_of T) (V1 _) (Yt _)) PySem.F.excBase_Exception ho hd (by kernel_rfl) hcd rfl rfl rfl (by kernel_rfl) (by kernel_rfl) (by kernel_rfl) (by kernel_rfl) (fun v => by kernel_rfl) (by kernel_rfl) (by kernel_rfl) (by kernel_rfl) (by kernel_rfl) (by kernel_rfl) (by kernel_rfl)
   (Ld ‹_› ‹_›) (L9 ‹_›) (by lia)) (fun r s' q => ?_)
  (refine G1 q fun zq0 q2 q3 q4 => ?_; subst zq0)
  exact ⟨.inl (Bn (.bool true) (.bool true) ([]) rfl (fun _ => rfl) (.bool true) (by kernel_rfl) (fun _ => ⟨.nil, fun _ h => nomatch h⟩)), q2, q3, q4.trans hg⟩)
end Mine
theorem PySem.Challenge.cw_sj0090_01_holds : PySem.Challenge.rw_sj0090_01.Holds :=
 Mine.head Mine.walk
