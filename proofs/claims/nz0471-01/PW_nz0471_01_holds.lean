import PyProof.Rows.All
import Wide.All
import OpenK.AllK
import Wide.FinOn
import Lean
import PySem.Challenge.RW_nz0471_01
open PySem PySem.W PyProof.Rows PySem.Calls PySem.Spec
set_option Elab.async false
set_option maxRecDepth 100000
namespace Mine
noncomputable def nth : Nat → List Stmt → Stmt
  | _, [] => .Pass default
  | 0, s :: _ => s
  | n + 1, _ :: r => nth n r
noncomputable def s0 : Stmt := nth 0 PySem.Challenge.pw_nz0471_01.main.body
noncomputable def s1 : Stmt := nth 1 PySem.Challenge.pw_nz0471_01.main.body
noncomputable def s2 : Stmt := nth 2 PySem.Challenge.pw_nz0471_01.main.body
noncomputable def s3 : Stmt := nth 3 PySem.Challenge.pw_nz0471_01.main.body
noncomputable def s4 : Stmt := nth 4 PySem.Challenge.pw_nz0471_01.main.body
noncomputable def s5 : Stmt := nth 5 PySem.Challenge.pw_nz0471_01.main.body
noncomputable def s6 : Stmt := nth 6 PySem.Challenge.pw_nz0471_01.main.body
noncomputable def s7 : Stmt := nth 7 PySem.Challenge.pw_nz0471_01.main.body
noncomputable def s8 : Stmt := nth 8 PySem.Challenge.pw_nz0471_01.main.body
noncomputable def s9 : Stmt := nth 9 PySem.Challenge.pw_nz0471_01.main.body
noncomputable def s10 : Stmt := nth 10 PySem.Challenge.pw_nz0471_01.main.body
noncomputable def s11 : Stmt := nth 11 PySem.Challenge.pw_nz0471_01.main.body
noncomputable def s12 : Stmt := nth 12 PySem.Challenge.pw_nz0471_01.main.body
noncomputable def s13 : Stmt := nth 13 PySem.Challenge.pw_nz0471_01.main.body
noncomputable def s14 : Stmt := nth 14 PySem.Challenge.pw_nz0471_01.main.body
noncomputable def s15 : Stmt := nth 15 PySem.Challenge.pw_nz0471_01.main.body
noncomputable def s16 : Stmt := nth 16 PySem.Challenge.pw_nz0471_01.main.body
noncomputable def s17 : Stmt := nth 17 PySem.Challenge.pw_nz0471_01.main.body
noncomputable def s18 : Stmt := nth 18 PySem.Challenge.pw_nz0471_01.main.body
noncomputable def s19 : Stmt := nth 19 PySem.Challenge.pw_nz0471_01.main.body
noncomputable def s20 : Stmt := nth 20 PySem.Challenge.pw_nz0471_01.main.body
noncomputable def s21 : Stmt := nth 21 PySem.Challenge.pw_nz0471_01.main.body
noncomputable def s22 : Stmt := nth 22 PySem.Challenge.pw_nz0471_01.main.body
noncomputable def s23 : Stmt := nth 23 PySem.Challenge.pw_nz0471_01.main.body
noncomputable def s24 : Stmt := nth 24 PySem.Challenge.pw_nz0471_01.main.body
noncomputable def s25 : Stmt := nth 25 PySem.Challenge.pw_nz0471_01.main.body
noncomputable def s26 : Stmt := nth 26 PySem.Challenge.pw_nz0471_01.main.body
noncomputable def pw : Program := { PySem.Challenge.pw_nz0471_01 with main := { PySem.Challenge.pw_nz0471_01.main with body := [s0, s1, s2, s3, s4, s5, s6, s7, s8, s9, s10, s11, s12, s13, s14, s15, s16, s17, s18, s19, s20, s21, s22, s23, s24, s25, s26] } }
noncomputable def lw : OpenLaw := { PySem.Challenge.rw_nz0471_01 with prog := pw }
set_option maxRecDepth 100000 in
theorem lw_is : PySem.Challenge.rw_nz0471_01 = lw := by kernel_rfl
noncomputable def fArgs : Stmt → Arguments
  | .FunctionDef _ a _ _ _ _ _ _ _ _ => a
  | _ => ⟨[], [], none, [], [], none, []⟩
noncomputable def fBody : Stmt → List Stmt
  | .FunctionDef _ _ b _ _ _ _ _ _ _ => b
  | .ClassDef _ _ _ b _ _ _ _ _ _ _ => b
  | _ => []
noncomputable def fScope : Stmt → Scope
  | .FunctionDef _ _ _ _ _ _ s _ _ _ => s
  | _ => { kind := .module, names := [], isGenerator := false, isCoroutine := false, more := [] }
noncomputable def kFn (n q : Str) (s : Stmt) (df pm : Value) (cd : Nat) : Obj := ⟨.type "function", none, .func (fnX n q (fArgs s) (fBody s) (fScope s) [] df .none .none pm none (.ref cd) .none), #[]⟩
noncomputable def kCode (n q : Str) (t : Nat) (line argc : Int) (a b c d e : Value) (fl : Int) (u : Nat) : Obj := ⟨.type "code", none, .fields #[.str n t, .str q (t + 1), .str (Str.ofString "/claim/cut.py") (t + 2), .int line 0, .int argc 0, .int 0 0, .int 0 0, .int 3 0, a, .bool true, .int 181 0, b, .none, c, d, e, .int fl 0, .int line 0, .str (Str.ofString "/claim/cut.py") u], #[]⟩
noncomputable def kCls (n : Str) (a ns t u : Nat) : Obj := ⟨.type "type", none, .cls { name := n, bases := [.type "object"], mro := [.ref a, .type "object"], ns := ns, qualname := n, hasDict := true, slotNames := [], subclasses := [], abstract := false, collection := none, hasDel := false }, #[none, none, some (.str n t), some (.str n u), some (.builtin "object.__new__"), some (.bool true)]⟩
noncomputable def kDict (l : List DictEntry) (n : Nat) : Obj := ⟨.type "dict", none, .dict l.toArray n, #[]⟩
noncomputable def e (P : Params) (x : Str) (t : Nat) (v : Value) : DictEntry := ⟨PyData.keyHash P x, .str x t, v⟩
noncomputable def K (P : Params) : Frag := [
  (1, kDict [e P (Str.ofString "builtins") 162 (.ref 4), e P (Str.ofString "__main__") 163 (.ref 5)] 2),
  (3, kDict [e P (Str.ofString "__name__") 165 (.str (Str.ofString "law_nz0471_01") 554), e P (Str.ofString "__doc__") 166 .none, e P (Str.ofString "__package__") 167 .none, e P (Str.ofString "__loader__") 168 (.builtin "__main__.__loader__#opaque"), e P (Str.ofString "__spec__") 169 .none, e P (Str.ofString "__annotations__") 170 (.ref 6), e P (Str.ofString "__builtins__") 171 (.ref 4), e P (Str.ofString "__file__") 173 (.str (Str.ofString "/claim/cut.py") 172), e P (Str.ofString "__cached__") 174 .none, e P (Str.ofString "_wall") 193 (.ref 21), e P (Str.ofString "Null") 224 (.ref 38), e P (Str.ofString "Missing") 253 (.ref 59), e P (Str.ofString "Vector") 295 (.ref 88), e P (Str.ofString "Symbol") 326 (.ref 109), e P (Str.ofString "Call") 361 (.ref 131), e P (Str.ofString "Closure") 397 (.ref 153), e P (Str.ofString "Environment") 434 (.ref 175), e P (Str.ofString "S4Object") 466 (.ref 196), e P (Str.ofString "same_attrs") 479 (.ref 207), e P (Str.ofString "same_items") 489 (.ref 214), e P (Str.ofString "same_formals") 498 (.ref 221), e P (Str.ofString "same_slots") 507 (.ref 228), e P (Str.ofString "same_dots") 520 (.ref 235), e P (Str.ofString "same_kernel") 530 (.ref 242), e P (Str.ofString "identical") 538 (.ref 249), e P (Str.ofString "names_items") 545 (.ref 256), e P (Str.ofString "same_code") 553 (.ref 263), e P (Str.ofString "_law_row") 566 (.ref 270), e P (Str.ofString "_law_next") 573 (.ref 277), e P (Str.ofString "_law_made") 579 (.ref 282), e P (Str.ofString "_law_again") 585 (.ref 287), e P (Str.ofString "_law_altered") 591 (.ref 292), e P (Str.ofString "law") 607 (.ref 299)] 33),
  (34, kCode (Str.ofString "__init__") (Str.ofString "Null.__init__") 208 7 1 (.ref 29) (.ref 30) (.ref 31) (.ref 32) (.ref 33) 212 213),
  (35, kFn (Str.ofString "__init__") (Str.ofString "Null.__init__") (nth 0 (fBody s2)) .none (.str (Str.ofString "vectorcove.values") 194) 34),
  (37, kDict [e P (Str.ofString "__module__") 203 (.str (Str.ofString "vectorcove.values") 194), e P (Str.ofString "__firstlineno__") 207 (.int 5 206), e P (Str.ofString "__init__") 214 (.ref 35), e P (Str.ofString "__static_attributes__") 217 (.ref 36), e P (Str.ofString "__dict__") 219 (.ref 39), e P (Str.ofString "__weakref__") 221 (.ref 40), e P (Str.ofString "__doc__") 222 .none] 4),
  (38, kCls (Str.ofString "Null") 38 37 196 204),
  (55, kCode (Str.ofString "__init__") (Str.ofString "Missing.__init__") 237 12 1 (.ref 50) (.ref 51) (.ref 52) (.ref 53) (.ref 54) 241 242),
  (56, kFn (Str.ofString "__init__") (Str.ofString "Missing.__init__") (nth 0 (fBody s3)) .none (.str (Str.ofString "vectorcove.values") 194) 55),
  (58, kDict [e P (Str.ofString "__module__") 232 (.str (Str.ofString "vectorcove.values") 194), e P (Str.ofString "__firstlineno__") 236 (.int 10 235), e P (Str.ofString "__init__") 243 (.ref 56), e P (Str.ofString "__static_attributes__") 246 (.ref 57), e P (Str.ofString "__dict__") 248 (.ref 60), e P (Str.ofString "__weakref__") 250 (.ref 61), e P (Str.ofString "__doc__") 251 .none] 4),
  (59, kCls (Str.ofString "Missing") 59 58 225 233),
  (71, ⟨(.type "tuple"), none, (.seq #[.none] 0), #[]⟩),
  (77, kCode (Str.ofString "__init__") (Str.ofString "Vector.__init__") 266 17 4 (.ref 72) (.ref 73) (.ref 74) (.ref 75) (.ref 76) 273 274),
  (78, kFn (Str.ofString "__init__") (Str.ofString "Vector.__init__") (nth 0 (fBody s4)) (.ref 71) (.str (Str.ofString "vectorcove.values") 194) 77),
  (87, kDict [e P (Str.ofString "__module__") 261 (.str (Str.ofString "vectorcove.values") 194), e P (Str.ofString "__firstlineno__") 265 (.int 15 264), e P (Str.ofString "__init__") 275 (.ref 78), e P (Str.ofString "copy") 282 (.ref 85), e P (Str.ofString "__static_attributes__") 288 (.ref 86), e P (Str.ofString "__dict__") 290 (.ref 89), e P (Str.ofString "__weakref__") 292 (.ref 90), e P (Str.ofString "__doc__") 293 .none] 4),
  (88, kCls (Str.ofString "Vector") 88 87 254 262),
  (105, kCode (Str.ofString "__init__") (Str.ofString "Symbol.__init__") 308 28 2 (.ref 100) (.ref 101) (.ref 102) (.ref 103) (.ref 104) 313 314),
  (106, kFn (Str.ofString "__init__") (Str.ofString "Symbol.__init__") (nth 0 (fBody s5)) .none (.str (Str.ofString "vectorcove.values") 194) 105),
  (108, kDict [e P (Str.ofString "__module__") 303 (.str (Str.ofString "vectorcove.values") 194), e P (Str.ofString "__firstlineno__") 307 (.int 26 306), e P (Str.ofString "__init__") 315 (.ref 106), e P (Str.ofString "__static_attributes__") 319 (.ref 107), e P (Str.ofString "__dict__") 321 (.ref 110), e P (Str.ofString "__weakref__") 323 (.ref 111), e P (Str.ofString "__doc__") 324 .none] 4),
  (109, kCls (Str.ofString "Symbol") 109 108 296 304),
  (121, ⟨(.type "tuple"), none, (.seq #[.none] 0), #[]⟩),
  (127, kCode (Str.ofString "__init__") (Str.ofString "Call.__init__") 339 34 4 (.ref 122) (.ref 123) (.ref 124) (.ref 125) (.ref 126) 346 347),
  (128, kFn (Str.ofString "__init__") (Str.ofString "Call.__init__") (nth 0 (fBody s6)) (.ref 121) (.str (Str.ofString "vectorcove.values") 194) 127),
  (130, kDict [e P (Str.ofString "__module__") 334 (.str (Str.ofString "vectorcove.values") 194), e P (Str.ofString "__firstlineno__") 338 (.int 32 337), e P (Str.ofString "__init__") 348 (.ref 128), e P (Str.ofString "__static_attributes__") 354 (.ref 129), e P (Str.ofString "__dict__") 356 (.ref 132), e P (Str.ofString "__weakref__") 358 (.ref 133), e P (Str.ofString "__doc__") 359 .none] 4),
  (131, kCls (Str.ofString "Call") 131 130 327 335),
  (143, ⟨(.type "tuple"), none, (.seq #[.none] 0), #[]⟩),
  (149, kCode (Str.ofString "__init__") (Str.ofString "Closure.__init__") 374 42 5 (.ref 144) (.ref 145) (.ref 146) (.ref 147) (.ref 148) 382 383),
  (150, kFn (Str.ofString "__init__") (Str.ofString "Closure.__init__") (nth 0 (fBody s7)) (.ref 143) (.str (Str.ofString "vectorcove.values") 194) 149),
  (152, kDict [e P (Str.ofString "__module__") 369 (.str (Str.ofString "vectorcove.values") 194), e P (Str.ofString "__firstlineno__") 373 (.int 40 372), e P (Str.ofString "__init__") 384 (.ref 150), e P (Str.ofString "__static_attributes__") 390 (.ref 151), e P (Str.ofString "__dict__") 392 (.ref 154), e P (Str.ofString "__weakref__") 394 (.ref 155), e P (Str.ofString "__doc__") 395 .none] 4),
  (153, kCls (Str.ofString "Closure") 153 152 362 370),
  (165, ⟨(.type "tuple"), none, (.seq #[.none] 0), #[]⟩),
  (171, kCode (Str.ofString "__init__") (Str.ofString "Environment.__init__") 410 50 4 (.ref 166) (.ref 167) (.ref 168) (.ref 169) (.ref 170) 417 418),
  (172, kFn (Str.ofString "__init__") (Str.ofString "Environment.__init__") (nth 0 (fBody s8)) (.ref 165) (.str (Str.ofString "vectorcove.values") 194) 171),
  (174, kDict [e P (Str.ofString "__module__") 405 (.str (Str.ofString "vectorcove.values") 194), e P (Str.ofString "__firstlineno__") 409 (.int 48 408), e P (Str.ofString "__init__") 419 (.ref 172), e P (Str.ofString "__static_attributes__") 427 (.ref 173), e P (Str.ofString "__dict__") 429 (.ref 176), e P (Str.ofString "__weakref__") 431 (.ref 177), e P (Str.ofString "__doc__") 432 .none] 4),
  (175, kCls (Str.ofString "Environment") 175 174 398 406),
  (192, kCode (Str.ofString "__init__") (Str.ofString "S4Object.__init__") 447 60 2 (.ref 187) (.ref 188) (.ref 189) (.ref 190) (.ref 191) 452 453),
  (193, kFn (Str.ofString "__init__") (Str.ofString "S4Object.__init__") (nth 0 (fBody s9)) .none (.str (Str.ofString "vectorcove.values") 194) 192),
  (195, kDict [e P (Str.ofString "__module__") 442 (.str (Str.ofString "vectorcove.values") 194), e P (Str.ofString "__firstlineno__") 446 (.int 58 445), e P (Str.ofString "__init__") 454 (.ref 193), e P (Str.ofString "__static_attributes__") 459 (.ref 194), e P (Str.ofString "__dict__") 461 (.ref 197), e P (Str.ofString "__weakref__") 463 (.ref 198), e P (Str.ofString "__doc__") 464 .none] 4),
  (196, kCls (Str.ofString "S4Object") 196 195 435 443),
  (206, kCode (Str.ofString "same_attrs") (Str.ofString "same_attrs") 469 66 2 (.ref 201) (.ref 202) (.ref 203) (.ref 204) (.ref 205) 477 478),
  (207, kFn (Str.ofString "same_attrs") (Str.ofString "same_attrs") s11 .none (.str (Str.ofString "vectorcove.identical") 467) 206),
  (213, kCode (Str.ofString "same_items") (Str.ofString "same_items") 480 75 3 (.ref 208) (.ref 209) (.ref 210) (.ref 211) (.ref 212) 487 488),
  (214, kFn (Str.ofString "same_items") (Str.ofString "same_items") s12 .none (.str (Str.ofString "vectorcove.identical") 467) 213),
  (220, kCode (Str.ofString "same_formals") (Str.ofString "same_formals") 490 82 2 (.ref 215) (.ref 216) (.ref 217) (.ref 218) (.ref 219) 496 497),
  (221, kFn (Str.ofString "same_formals") (Str.ofString "same_formals") s13 .none (.str (Str.ofString "vectorcove.identical") 467) 220),
  (227, kCode (Str.ofString "same_slots") (Str.ofString "same_slots") 499 89 2 (.ref 222) (.ref 223) (.ref 224) (.ref 225) (.ref 226) 505 506),
  (228, kFn (Str.ofString "same_slots") (Str.ofString "same_slots") s14 .none (.str (Str.ofString "vectorcove.identical") 467) 227),
  (241, kCode (Str.ofString "same_kernel") (Str.ofString "same_kernel") 521 105 2 (.ref 236) (.ref 237) (.ref 238) (.ref 239) (.ref 240) 528 529),
  (242, kFn (Str.ofString "same_kernel") (Str.ofString "same_kernel") s16 .none (.str (Str.ofString "vectorcove.identical") 467) 241),
  (248, kCode (Str.ofString "identical") (Str.ofString "identical") 531 127 2 (.ref 243) (.ref 244) (.ref 245) (.ref 246) (.ref 247) 536 537),
  (249, kFn (Str.ofString "identical") (Str.ofString "identical") s17 .none (.str (Str.ofString "vectorcove.identical") 467) 248),
  (255, kCode (Str.ofString "names_items") (Str.ofString "names_items") 539 131 1 (.ref 250) (.ref 251) (.ref 252) (.ref 253) (.ref 254) 543 544),
  (256, kFn (Str.ofString "names_items") (Str.ofString "names_items") s18 .none (.str (Str.ofString "vectorcove.identical") 467) 255),
  (262, kCode (Str.ofString "same_code") (Str.ofString "same_code") 546 135 2 (.ref 257) (.ref 258) (.ref 259) (.ref 260) (.ref 261) 551 552),
  (263, kFn (Str.ofString "same_code") (Str.ofString "same_code") s19 .none (.str (Str.ofString "vectorcove.identical") 467) 262),
  (269, kCode (Str.ofString "_law_row") (Str.ofString "_law_row") 556 147 1 (.ref 264) (.ref 265) (.ref 266) (.ref 267) (.ref 268) 564 565),
  (270, kFn (Str.ofString "_law_row") (Str.ofString "_law_row") s21 .none (.str (Str.ofString "law_nz0471_01") 554) 269),
  (276, kCode (Str.ofString "_law_next") (Str.ofString "_law_next") 567 160 1 (.ref 271) (.ref 272) (.ref 273) (.ref 274) (.ref 275) 571 572),
  (277, kFn (Str.ofString "_law_next") (Str.ofString "_law_next") s22 .none (.str (Str.ofString "law_nz0471_01") 554) 276),
  (281, kCode (Str.ofString "_law_made") (Str.ofString "_law_made") 574 162 3 (.ref 278) (.ref 279) .none .none (.ref 280) 577 578),
  (282, kFn (Str.ofString "_law_made") (Str.ofString "_law_made") s23 .none (.str (Str.ofString "law_nz0471_01") 554) 281),
  (286, kCode (Str.ofString "_law_again") (Str.ofString "_law_again") 580 194 1 (.ref 283) (.ref 284) .none .none (.ref 285) 583 584),
  (287, kFn (Str.ofString "_law_again") (Str.ofString "_law_again") s24 .none (.str (Str.ofString "law_nz0471_01") 554) 286),
  (291, kCode (Str.ofString "_law_altered") (Str.ofString "_law_altered") 586 217 2 (.ref 288) (.ref 289) .none .none (.ref 290) 589 590),
  (292, kFn (Str.ofString "_law_altered") (Str.ofString "_law_altered") s25 .none (.str (Str.ofString "law_nz0471_01") 554) 291),
  (298, kCode (Str.ofString "law") (Str.ofString "law") 592 261 1 (.ref 293) (.ref 294) (.ref 295) (.ref 296) (.ref 297) 605 606),
  (299, kFn (Str.ofString "law") (Str.ofString "law") s26 .none (.str (Str.ofString "law_nz0471_01") 554) 298)]
noncomputable def as : List Addr := [1, 3, 34, 35, 37, 38, 55, 56, 58, 59, 71, 77, 78, 87, 88, 105, 106, 108, 109, 121, 127, 128, 130, 131, 143, 149, 150, 152, 153, 165, 171, 172, 174, 175, 192, 193, 195, 196, 206, 207, 213, 214, 220, 221, 227, 228, 241, 242, 248, 249, 255, 256, 262, 263, 269, 270, 276, 277, 281, 282, 286, 287, 291, 292, 298, 299]
theorem asEq : ∀ P, as = (K P).map (·.1) := fun _ => rfl
noncomputable def hLife : Life := {}
noncomputable def kFn0 (n q : Str) (s : Stmt) : Obj := ⟨.none, none, .func { name := n, qualname := q, params := fArgs s, body := .stmts (fBody s), scope := fScope s, globals := 0, closure := [], defaults := .none, kwdefaults := .none, doc := .none, pyModule := .none, annotations := none, code := .none, closureTuple := .none, builtins := 0 }, #[]⟩
noncomputable def kCodeC (n q : Str) (t : Nat) (line : Int) (a : Value) (v : Int) (b : Value) (fl : Int) (u : Nat) : Obj := ⟨.type "code", none, .fields #[.str n t, .str q (t + 1), .str (Str.ofString "/claim/cut.py") (t + 2), .int line 0, .int 0 0, .int 0 0, .int 0 0, .int 0 0, a, .bool false, .int v 0, b, .none, .none, .none, .none, .int fl 0, .int line 0, .str (Str.ofString "/claim/cut.py") u], #[]⟩
noncomputable def kTup (l : List Value) : Obj := ⟨.type "tuple", none, .seq l.toArray 0, #[]⟩
noncomputable def kNote (l : List Value) : Obj := ⟨.none, none, .fields l.toArray, #[]⟩
noncomputable def kFld (c : String) (l : List Value) : Obj := ⟨.type c, none, .fields l.toArray, #[]⟩
noncomputable def kFrm (a b : Nat) (v : Value) : Obj := ⟨.type "frame", none, .plain, #[some (.ref a), some (.ref 3), some (.ref b), none, some v, none, some (.ref 0)]⟩
noncomputable def kT0 : Obj := kTup []
noncomputable def kN0 : Obj := kNote []
noncomputable def o13 : Obj := kCodeC (Str.ofString "<module>") (Str.ofString "<module>") 182 1 (.ref 11) 181 (.ref 12) 185 186
noncomputable def o14 : Obj := kFrm 13 3 (.str (Str.ofString "__main__") 164)
noncomputable def T0 (P : Params) : BT := (.node (boot_o_0 P) (.node (boot_o_1 P) (.node (boot_o_3 P) (.node (boot_o_7 P) .nil .nil) (.node kT0 .nil .nil)) (.node (boot_o_5 P) (.node (boot_o_9 P) .nil .nil) (.node o13 .nil .nil))) (.node (boot_o_2 P) (.node (boot_o_4 P) (.node (boot_o_8 P) .nil .nil) (.node kN0 .nil .nil)) (.node (boot_o_6 P) (.node (boot_o_10 P) .nil .nil) (.node o14 .nil .nil))))
noncomputable def S0 (w : World) (os : OsState) : SharedT := ⟨T0 w.params, 15, hLife, #[], ⟨0, 0, 0, 0⟩, 187, os⟩
noncomputable def o3 (P : Params) : Obj := kDict [e P (Str.ofString "__name__") 165 (.str (Str.ofString "vectorcove.values") 194), e P (Str.ofString "__doc__") 166 .none, e P (Str.ofString "__package__") 167 .none, e P (Str.ofString "__loader__") 168 (.builtin "__main__.__loader__#opaque"), e P (Str.ofString "__spec__") 169 .none, e P (Str.ofString "__annotations__") 170 (.ref 6), e P (Str.ofString "__builtins__") 171 (.ref 4), e P (Str.ofString "__file__") 173 (.str (Str.ofString "/claim/cut.py") 172), e P (Str.ofString "__cached__") 174 .none, e P (Str.ofString "_wall") 193 (.ref 21), e P (Str.ofString "Null") 224 (.ref 38)] 11
noncomputable def o12 : Obj := kNote [(.int 1 0), (.int 0 0), (.ref 20), (.int 5 0), (.int 0 0), (.ref 27)]
noncomputable def o17 : Obj := kTup [(.str (Str.ofString "k") 190)]
noncomputable def o19 : Obj := kFn0 (Str.ofString "_wall") (Str.ofString "_wall") s0
noncomputable def o20 : Obj := kCode (Str.ofString "_wall") (Str.ofString "_wall") 187 1 1 (.ref 15) (.ref 16) (.ref 17) (.ref 18) (.ref 19) 191 192
noncomputable def o21 : Obj := kFn (Str.ofString "_wall") (Str.ofString "_wall") s0 .none (.str (Str.ofString "__main__") 164) 20
noncomputable def o23 : Obj := kFld "builtin_function_or_method" [(.builtin "type.__prepare__"), (.type "type")]
noncomputable def o24 (P : Params) : Obj := kDict [e P (Str.ofString "__module__") 203 (.str (Str.ofString "vectorcove.values") 194), e P (Str.ofString "__qualname__") 205 (.str (Str.ofString "Null") 204), e P (Str.ofString "__firstlineno__") 207 (.int 5 206), e P (Str.ofString "__init__") 214 (.ref 35), e P (Str.ofString "__static_attributes__") 217 (.ref 36)] 5
noncomputable def o26 : Obj := kNote [(.int 7 0), (.int 4 0), (.ref 34)]
noncomputable def o27 : Obj := kCodeC (Str.ofString "Null") (Str.ofString "Null") 198 5 (.ref 25) 181 (.ref 26) 201 202
noncomputable def o28 : Obj := kFrm 27 24 (.str (Str.ofString "vectorcove.values") 194)
noncomputable def o31 : Obj := kTup [(.str (Str.ofString "self") 211)]
noncomputable def o33 : Obj := kFn0 (Str.ofString "__init__") (Str.ofString "Null.__init__") (nth 0 (fBody s2))
noncomputable def o34 : Obj := kCode (Str.ofString "__init__") (Str.ofString "Null.__init__") 208 7 1 (.ref 29) (.ref 30) (.ref 31) (.ref 32) (.ref 33) 212 213
noncomputable def o35 : Obj := kFn (Str.ofString "__init__") (Str.ofString "Null.__init__") (nth 0 (fBody s2)) .none (.str (Str.ofString "vectorcove.values") 194) 34
noncomputable def o36 : Obj := kTup [(.str (Str.ofString "attrs") 215), (.str (Str.ofString "kind") 216)]
noncomputable def o37 (P : Params) : Obj := kDict [e P (Str.ofString "__module__") 203 (.str (Str.ofString "vectorcove.values") 194), e P (Str.ofString "__firstlineno__") 207 (.int 5 206), e P (Str.ofString "__init__") 214 (.ref 35), e P (Str.ofString "__static_attributes__") 217 (.ref 36), e P (Str.ofString "__dict__") 219 (.ref 39), e P (Str.ofString "__weakref__") 221 (.ref 40), e P (Str.ofString "__doc__") 222 .none] 4
noncomputable def o38 : Obj := kCls (Str.ofString "Null") 38 37 196 204
noncomputable def o39 : Obj := kFld "getset_descriptor" [(.str (Str.ofString "__dict__") 218), (.ref 38), (.builtin "function.__dict__"), (.builtin "function.__dict__#set")]
noncomputable def o40 : Obj := kFld "getset_descriptor" [(.str (Str.ofString "__weakref__") 220), (.ref 38), (.builtin "ExceptionGroup.__weakref__"), .none]
noncomputable def o41 : Obj := kFld "super" [(.ref 38), (.ref 38), (.ref 38)]
noncomputable def o42 : Obj := kFld "builtin_function_or_method" [(.builtin "object.__init_subclass__"), (.ref 38)]
noncomputable def T3 (P : Params) : BT := (.node (boot_o_0 P) (.node (boot_o_1 P) (.node (o3 P) (.node (boot_o_7 P) (.node kT0 (.node o31 .nil .nil) .nil) (.node o23 (.node o39 .nil .nil) .nil)) (.node kT0 (.node o19 (.node o35 .nil .nil) .nil) (.node o27 .nil .nil))) (.node (boot_o_5 P) (.node (boot_o_9 P) (.node o17 (.node o33 .nil .nil) .nil) (.node kT0 (.node o41 .nil .nil) .nil)) (.node o13 (.node o21 (.node (o37 P) .nil .nil) .nil) (.node kT0 .nil .nil)))) (.node (boot_o_2 P) (.node (boot_o_4 P) (.node (boot_o_8 P) (.node kN0 (.node kT0 .nil .nil) .nil) (.node (o24 P) (.node o40 .nil .nil) .nil)) (.node o12 (.node o20 (.node o36 .nil .nil) .nil) (.node o28 .nil .nil))) (.node (boot_o_6 P) (.node (boot_o_10 P) (.node kT0 (.node o34 .nil .nil) .nil) (.node o26 (.node o42 .nil .nil) .nil)) (.node o14 (.node kT0 (.node o38 .nil .nil) .nil) (.node kN0 .nil .nil)))))
noncomputable def S3 (w : World) (os : OsState) : SharedT := ⟨T3 w.params, 43, hLife, #[], ⟨0, 0, 0, 0⟩, 225, os⟩
noncomputable def o3_1 (P : Params) : Obj := kDict [e P (Str.ofString "__name__") 165 (.str (Str.ofString "vectorcove.values") 194), e P (Str.ofString "__doc__") 166 .none, e P (Str.ofString "__package__") 167 .none, e P (Str.ofString "__loader__") 168 (.builtin "__main__.__loader__#opaque"), e P (Str.ofString "__spec__") 169 .none, e P (Str.ofString "__annotations__") 170 (.ref 6), e P (Str.ofString "__builtins__") 171 (.ref 4), e P (Str.ofString "__file__") 173 (.str (Str.ofString "/claim/cut.py") 172), e P (Str.ofString "__cached__") 174 .none, e P (Str.ofString "_wall") 193 (.ref 21), e P (Str.ofString "Null") 224 (.ref 38), e P (Str.ofString "Missing") 253 (.ref 59), e P (Str.ofString "Vector") 295 (.ref 88)] 13
noncomputable def o12_1 : Obj := kNote [(.int 1 0), (.int 0 0), (.ref 20), (.int 5 0), (.int 0 0), (.ref 27), (.int 10 0), (.int 0 0), (.ref 48), (.int 15 0), (.int 0 0), (.ref 69)]
noncomputable def o44 : Obj := kFld "builtin_function_or_method" [(.builtin "type.__prepare__"), (.type "type")]
noncomputable def o45 (P : Params) : Obj := kDict [e P (Str.ofString "__module__") 232 (.str (Str.ofString "vectorcove.values") 194), e P (Str.ofString "__qualname__") 234 (.str (Str.ofString "Missing") 233), e P (Str.ofString "__firstlineno__") 236 (.int 10 235), e P (Str.ofString "__init__") 243 (.ref 56), e P (Str.ofString "__static_attributes__") 246 (.ref 57)] 5
noncomputable def o47 : Obj := kNote [(.int 12 0), (.int 4 0), (.ref 55)]
noncomputable def o48 : Obj := kCodeC (Str.ofString "Missing") (Str.ofString "Missing") 227 10 (.ref 46) 181 (.ref 47) 230 231
noncomputable def o49 : Obj := kFrm 48 45 (.str (Str.ofString "vectorcove.values") 194)
noncomputable def o52 : Obj := kTup [(.str (Str.ofString "self") 240)]
noncomputable def o54 : Obj := kFn0 (Str.ofString "__init__") (Str.ofString "Missing.__init__") (nth 0 (fBody s3))
noncomputable def o55 : Obj := kCode (Str.ofString "__init__") (Str.ofString "Missing.__init__") 237 12 1 (.ref 50) (.ref 51) (.ref 52) (.ref 53) (.ref 54) 241 242
noncomputable def o56 : Obj := kFn (Str.ofString "__init__") (Str.ofString "Missing.__init__") (nth 0 (fBody s3)) .none (.str (Str.ofString "vectorcove.values") 194) 55
noncomputable def o57 : Obj := kTup [(.str (Str.ofString "attrs") 244), (.str (Str.ofString "kind") 245)]
noncomputable def o58 (P : Params) : Obj := kDict [e P (Str.ofString "__module__") 232 (.str (Str.ofString "vectorcove.values") 194), e P (Str.ofString "__firstlineno__") 236 (.int 10 235), e P (Str.ofString "__init__") 243 (.ref 56), e P (Str.ofString "__static_attributes__") 246 (.ref 57), e P (Str.ofString "__dict__") 248 (.ref 60), e P (Str.ofString "__weakref__") 250 (.ref 61), e P (Str.ofString "__doc__") 251 .none] 4
noncomputable def o59 : Obj := kCls (Str.ofString "Missing") 59 58 225 233
noncomputable def o60 : Obj := kFld "getset_descriptor" [(.str (Str.ofString "__dict__") 247), (.ref 59), (.builtin "function.__dict__"), (.builtin "function.__dict__#set")]
noncomputable def o61 : Obj := kFld "getset_descriptor" [(.str (Str.ofString "__weakref__") 249), (.ref 59), (.builtin "ExceptionGroup.__weakref__"), .none]
noncomputable def o62 : Obj := kFld "super" [(.ref 59), (.ref 59), (.ref 59)]
noncomputable def o63 : Obj := kFld "builtin_function_or_method" [(.builtin "object.__init_subclass__"), (.ref 59)]
noncomputable def o65 : Obj := kFld "builtin_function_or_method" [(.builtin "type.__prepare__"), (.type "type")]
noncomputable def o66 (P : Params) : Obj := kDict [e P (Str.ofString "__module__") 261 (.str (Str.ofString "vectorcove.values") 194), e P (Str.ofString "__qualname__") 263 (.str (Str.ofString "Vector") 262), e P (Str.ofString "__firstlineno__") 265 (.int 15 264), e P (Str.ofString "__init__") 275 (.ref 78), e P (Str.ofString "copy") 282 (.ref 85), e P (Str.ofString "__static_attributes__") 288 (.ref 86)] 6
noncomputable def o68 : Obj := kNote [(.int 17 0), (.int 4 0), (.ref 77), (.int 24 0), (.int 4 0), (.ref 84)]
noncomputable def o69 : Obj := kCodeC (Str.ofString "Vector") (Str.ofString "Vector") 256 15 (.ref 67) 181 (.ref 68) 259 260
noncomputable def o70 : Obj := kFrm 69 66 (.str (Str.ofString "vectorcove.values") 194)
noncomputable def o71 : Obj := kTup [.none]
noncomputable def o74 : Obj := kTup [(.str (Str.ofString "self") 269), (.str (Str.ofString "kind") 270), (.str (Str.ofString "items") 271), (.str (Str.ofString "attrs") 272)]
noncomputable def o76 : Obj := kFn0 (Str.ofString "__init__") (Str.ofString "Vector.__init__") (nth 0 (fBody s4))
noncomputable def o77 : Obj := kCode (Str.ofString "__init__") (Str.ofString "Vector.__init__") 266 17 4 (.ref 72) (.ref 73) (.ref 74) (.ref 75) (.ref 76) 273 274
noncomputable def o78 : Obj := kFn (Str.ofString "__init__") (Str.ofString "Vector.__init__") (nth 0 (fBody s4)) (.ref 71) (.str (Str.ofString "vectorcove.values") 194) 77
noncomputable def o81 : Obj := kTup [(.str (Str.ofString "self") 279)]
noncomputable def o83 : Obj := kFn0 (Str.ofString "copy") (Str.ofString "Vector.copy") (nth 1 (fBody s4))
noncomputable def o84 : Obj := kCode (Str.ofString "copy") (Str.ofString "Vector.copy") 276 24 1 (.ref 79) (.ref 80) (.ref 81) (.ref 82) (.ref 83) 280 281
noncomputable def o85 : Obj := kFn (Str.ofString "copy") (Str.ofString "Vector.copy") (nth 1 (fBody s4)) .none (.str (Str.ofString "vectorcove.values") 194) 84
noncomputable def o86 : Obj := kTup [(.str (Str.ofString "attrs") 283), (.str (Str.ofString "items") 284), (.str (Str.ofString "kind") 285), (.str (Str.ofString "loose") 286), (.str (Str.ofString "shared") 287)]
noncomputable def o87 (P : Params) : Obj := kDict [e P (Str.ofString "__module__") 261 (.str (Str.ofString "vectorcove.values") 194), e P (Str.ofString "__firstlineno__") 265 (.int 15 264), e P (Str.ofString "__init__") 275 (.ref 78), e P (Str.ofString "copy") 282 (.ref 85), e P (Str.ofString "__static_attributes__") 288 (.ref 86), e P (Str.ofString "__dict__") 290 (.ref 89), e P (Str.ofString "__weakref__") 292 (.ref 90), e P (Str.ofString "__doc__") 293 .none] 4
noncomputable def o88 : Obj := kCls (Str.ofString "Vector") 88 87 254 262
noncomputable def o89 : Obj := kFld "getset_descriptor" [(.str (Str.ofString "__dict__") 289), (.ref 88), (.builtin "function.__dict__"), (.builtin "function.__dict__#set")]
noncomputable def o90 : Obj := kFld "getset_descriptor" [(.str (Str.ofString "__weakref__") 291), (.ref 88), (.builtin "ExceptionGroup.__weakref__"), .none]
noncomputable def o91 : Obj := kFld "super" [(.ref 88), (.ref 88), (.ref 88)]
noncomputable def o92 : Obj := kFld "builtin_function_or_method" [(.builtin "object.__init_subclass__"), (.ref 88)]
noncomputable def T5 (P : Params) : BT := (.node (boot_o_0 P) (.node (boot_o_1 P) (.node (o3_1 P) (.node (boot_o_7 P) (.node kT0 (.node o31 (.node o63 .nil .nil) .nil) (.node o47 (.node kT0 .nil .nil) .nil)) (.node o23 (.node o39 (.node o71 .nil .nil) .nil) (.node o55 (.node (o87 P) .nil .nil) .nil))) (.node kT0 (.node o19 (.node o35 (.node kT0 .nil .nil) .nil) (.node kN0 (.node o83 .nil .nil) .nil)) (.node o27 (.node kT0 (.node kT0 .nil .nil) .nil) (.node o59 (.node o91 .nil .nil) .nil)))) (.node (boot_o_5 P) (.node (boot_o_9 P) (.node o17 (.node o33 (.node o65 .nil .nil) .nil) (.node o49 (.node o81 .nil .nil) .nil)) (.node kT0 (.node o41 (.node kN0 .nil .nil) .nil) (.node o57 (.node o89 .nil .nil) .nil))) (.node o13 (.node o21 (.node (o37 P) (.node o69 .nil .nil) .nil) (.node kT0 (.node o85 .nil .nil) .nil)) (.node kT0 (.node (o45 P) (.node o77 .nil .nil) .nil) (.node o61 .nil .nil))))) (.node (boot_o_2 P) (.node (boot_o_4 P) (.node (boot_o_8 P) (.node kN0 (.node kT0 (.node kT0 .nil .nil) .nil) (.node o48 (.node kN0 .nil .nil) .nil)) (.node (o24 P) (.node o40 (.node kT0 .nil .nil) .nil) (.node o56 (.node o88 .nil .nil) .nil))) (.node o12_1 (.node o20 (.node o36 (.node o68 .nil .nil) .nil) (.node o52 (.node o84 .nil .nil) .nil)) (.node o28 (.node o44 (.node o76 .nil .nil) .nil) (.node o60 (.node o92 .nil .nil) .nil)))) (.node (boot_o_6 P) (.node (boot_o_10 P) (.node kT0 (.node o34 (.node (o66 P) .nil .nil) .nil) (.node kT0 (.node kT0 .nil .nil) .nil)) (.node o26 (.node o42 (.node o74 .nil .nil) .nil) (.node (o58 P) (.node o90 .nil .nil) .nil))) (.node o14 (.node kT0 (.node o38 (.node o70 .nil .nil) .nil) (.node o54 (.node o86 .nil .nil) .nil)) (.node kN0 (.node kT0 (.node o78 .nil .nil) .nil) (.node o62 .nil .nil))))))
noncomputable def S5 (w : World) (os : OsState) : SharedT := ⟨T5 w.params, 93, hLife, #[], ⟨0, 0, 0, 0⟩, 296, os⟩
noncomputable def o3_2 (P : Params) : Obj := kDict [e P (Str.ofString "__name__") 165 (.str (Str.ofString "vectorcove.values") 194), e P (Str.ofString "__doc__") 166 .none, e P (Str.ofString "__package__") 167 .none, e P (Str.ofString "__loader__") 168 (.builtin "__main__.__loader__#opaque"), e P (Str.ofString "__spec__") 169 .none, e P (Str.ofString "__annotations__") 170 (.ref 6), e P (Str.ofString "__builtins__") 171 (.ref 4), e P (Str.ofString "__file__") 173 (.str (Str.ofString "/claim/cut.py") 172), e P (Str.ofString "__cached__") 174 .none, e P (Str.ofString "_wall") 193 (.ref 21), e P (Str.ofString "Null") 224 (.ref 38), e P (Str.ofString "Missing") 253 (.ref 59), e P (Str.ofString "Vector") 295 (.ref 88), e P (Str.ofString "Symbol") 326 (.ref 109), e P (Str.ofString "Call") 361 (.ref 131)] 15
noncomputable def o12_2 : Obj := kNote [(.int 1 0), (.int 0 0), (.ref 20), (.int 5 0), (.int 0 0), (.ref 27), (.int 10 0), (.int 0 0), (.ref 48), (.int 15 0), (.int 0 0), (.ref 69), (.int 26 0), (.int 0 0), (.ref 98), (.int 32 0), (.int 0 0), (.ref 119)]
noncomputable def o94 : Obj := kFld "builtin_function_or_method" [(.builtin "type.__prepare__"), (.type "type")]
noncomputable def o95 (P : Params) : Obj := kDict [e P (Str.ofString "__module__") 303 (.str (Str.ofString "vectorcove.values") 194), e P (Str.ofString "__qualname__") 305 (.str (Str.ofString "Symbol") 304), e P (Str.ofString "__firstlineno__") 307 (.int 26 306), e P (Str.ofString "__init__") 315 (.ref 106), e P (Str.ofString "__static_attributes__") 319 (.ref 107)] 5
noncomputable def o97 : Obj := kNote [(.int 28 0), (.int 4 0), (.ref 105)]
noncomputable def o98 : Obj := kCodeC (Str.ofString "Symbol") (Str.ofString "Symbol") 298 26 (.ref 96) 181 (.ref 97) 301 302
noncomputable def o99 : Obj := kFrm 98 95 (.str (Str.ofString "vectorcove.values") 194)
noncomputable def o102 : Obj := kTup [(.str (Str.ofString "self") 311), (.str (Str.ofString "name") 312)]
noncomputable def o104 : Obj := kFn0 (Str.ofString "__init__") (Str.ofString "Symbol.__init__") (nth 0 (fBody s5))
noncomputable def o105 : Obj := kCode (Str.ofString "__init__") (Str.ofString "Symbol.__init__") 308 28 2 (.ref 100) (.ref 101) (.ref 102) (.ref 103) (.ref 104) 313 314
noncomputable def o106 : Obj := kFn (Str.ofString "__init__") (Str.ofString "Symbol.__init__") (nth 0 (fBody s5)) .none (.str (Str.ofString "vectorcove.values") 194) 105
noncomputable def o107 : Obj := kTup [(.str (Str.ofString "attrs") 316), (.str (Str.ofString "kind") 317), (.str (Str.ofString "name") 318)]
noncomputable def o108 (P : Params) : Obj := kDict [e P (Str.ofString "__module__") 303 (.str (Str.ofString "vectorcove.values") 194), e P (Str.ofString "__firstlineno__") 307 (.int 26 306), e P (Str.ofString "__init__") 315 (.ref 106), e P (Str.ofString "__static_attributes__") 319 (.ref 107), e P (Str.ofString "__dict__") 321 (.ref 110), e P (Str.ofString "__weakref__") 323 (.ref 111), e P (Str.ofString "__doc__") 324 .none] 4
noncomputable def o109 : Obj := kCls (Str.ofString "Symbol") 109 108 296 304
noncomputable def o110 : Obj := kFld "getset_descriptor" [(.str (Str.ofString "__dict__") 320), (.ref 109), (.builtin "function.__dict__"), (.builtin "function.__dict__#set")]
noncomputable def o111 : Obj := kFld "getset_descriptor" [(.str (Str.ofString "__weakref__") 322), (.ref 109), (.builtin "ExceptionGroup.__weakref__"), .none]
noncomputable def o112 : Obj := kFld "super" [(.ref 109), (.ref 109), (.ref 109)]
noncomputable def o113 : Obj := kFld "builtin_function_or_method" [(.builtin "object.__init_subclass__"), (.ref 109)]
noncomputable def o115 : Obj := kFld "builtin_function_or_method" [(.builtin "type.__prepare__"), (.type "type")]
noncomputable def o116 (P : Params) : Obj := kDict [e P (Str.ofString "__module__") 334 (.str (Str.ofString "vectorcove.values") 194), e P (Str.ofString "__qualname__") 336 (.str (Str.ofString "Call") 335), e P (Str.ofString "__firstlineno__") 338 (.int 32 337), e P (Str.ofString "__init__") 348 (.ref 128), e P (Str.ofString "__static_attributes__") 354 (.ref 129)] 5
noncomputable def o118 : Obj := kNote [(.int 34 0), (.int 4 0), (.ref 127)]
noncomputable def o119 : Obj := kCodeC (Str.ofString "Call") (Str.ofString "Call") 329 32 (.ref 117) 181 (.ref 118) 332 333
noncomputable def o120 : Obj := kFrm 119 116 (.str (Str.ofString "vectorcove.values") 194)
noncomputable def o121 : Obj := kTup [.none]
noncomputable def o124 : Obj := kTup [(.str (Str.ofString "self") 342), (.str (Str.ofString "items") 343), (.str (Str.ofString "tags") 344), (.str (Str.ofString "attrs") 345)]
noncomputable def o126 : Obj := kFn0 (Str.ofString "__init__") (Str.ofString "Call.__init__") (nth 0 (fBody s6))
noncomputable def o127 : Obj := kCode (Str.ofString "__init__") (Str.ofString "Call.__init__") 339 34 4 (.ref 122) (.ref 123) (.ref 124) (.ref 125) (.ref 126) 346 347
noncomputable def o128 : Obj := kFn (Str.ofString "__init__") (Str.ofString "Call.__init__") (nth 0 (fBody s6)) (.ref 121) (.str (Str.ofString "vectorcove.values") 194) 127
noncomputable def o129 : Obj := kTup [(.str (Str.ofString "attrs") 349), (.str (Str.ofString "code") 350), (.str (Str.ofString "items") 351), (.str (Str.ofString "kind") 352), (.str (Str.ofString "tags") 353)]
noncomputable def o130 (P : Params) : Obj := kDict [e P (Str.ofString "__module__") 334 (.str (Str.ofString "vectorcove.values") 194), e P (Str.ofString "__firstlineno__") 338 (.int 32 337), e P (Str.ofString "__init__") 348 (.ref 128), e P (Str.ofString "__static_attributes__") 354 (.ref 129), e P (Str.ofString "__dict__") 356 (.ref 132), e P (Str.ofString "__weakref__") 358 (.ref 133), e P (Str.ofString "__doc__") 359 .none] 4
noncomputable def o131 : Obj := kCls (Str.ofString "Call") 131 130 327 335
noncomputable def o132 : Obj := kFld "getset_descriptor" [(.str (Str.ofString "__dict__") 355), (.ref 131), (.builtin "function.__dict__"), (.builtin "function.__dict__#set")]
noncomputable def o133 : Obj := kFld "getset_descriptor" [(.str (Str.ofString "__weakref__") 357), (.ref 131), (.builtin "ExceptionGroup.__weakref__"), .none]
noncomputable def o134 : Obj := kFld "super" [(.ref 131), (.ref 131), (.ref 131)]
noncomputable def o135 : Obj := kFld "builtin_function_or_method" [(.builtin "object.__init_subclass__"), (.ref 131)]
noncomputable def T7 (P : Params) : BT := (.node (boot_o_0 P) (.node (boot_o_1 P) (.node (o3_2 P) (.node (boot_o_7 P) (.node kT0 (.node o31 (.node o63 (.node o127 .nil .nil) .nil) (.node (o95 P) .nil .nil)) (.node o47 (.node kT0 .nil .nil) (.node o111 .nil .nil))) (.node o23 (.node o39 (.node o71 (.node o135 .nil .nil) .nil) (.node kT0 .nil .nil)) (.node o55 (.node (o87 P) .nil .nil) (.node o119 .nil .nil)))) (.node kT0 (.node o19 (.node o35 (.node kT0 (.node o131 .nil .nil) .nil) (.node o99 .nil .nil)) (.node kN0 (.node o83 .nil .nil) (.node o115 .nil .nil))) (.node o27 (.node kT0 (.node kT0 .nil .nil) (.node o107 .nil .nil)) (.node o59 (.node o91 .nil .nil) (.node kN0 .nil .nil))))) (.node (boot_o_5 P) (.node (boot_o_9 P) (.node o17 (.node o33 (.node o65 (.node o129 .nil .nil) .nil) (.node o97 .nil .nil)) (.node o49 (.node o81 .nil .nil) (.node o113 .nil .nil))) (.node kT0 (.node o41 (.node kN0 .nil .nil) (.node o105 .nil .nil)) (.node o57 (.node o89 .nil .nil) (.node o121 .nil .nil)))) (.node o13 (.node o21 (.node (o37 P) (.node o69 (.node o133 .nil .nil) .nil) (.node kN0 .nil .nil)) (.node kT0 (.node o85 .nil .nil) (.node kT0 .nil .nil))) (.node kT0 (.node (o45 P) (.node o77 .nil .nil) (.node o109 .nil .nil)) (.node o61 (.node kT0 .nil .nil) (.node kT0 .nil .nil)))))) (.node (boot_o_2 P) (.node (boot_o_4 P) (.node (boot_o_8 P) (.node kN0 (.node kT0 (.node kT0 (.node o128 .nil .nil) .nil) (.node kT0 .nil .nil)) (.node o48 (.node kN0 .nil .nil) (.node o112 .nil .nil))) (.node (o24 P) (.node o40 (.node kT0 .nil .nil) (.node o104 .nil .nil)) (.node o56 (.node o88 .nil .nil) (.node o120 .nil .nil)))) (.node o12_2 (.node o20 (.node o36 (.node o68 (.node o132 .nil .nil) .nil) (.node kT0 .nil .nil)) (.node o52 (.node o84 .nil .nil) (.node (o116 P) .nil .nil))) (.node o28 (.node o44 (.node o76 .nil .nil) (.node (o108 P) .nil .nil)) (.node o60 (.node o92 .nil .nil) (.node o124 .nil .nil))))) (.node (boot_o_6 P) (.node (boot_o_10 P) (.node kT0 (.node o34 (.node (o66 P) (.node (o130 P) .nil .nil) .nil) (.node o98 .nil .nil)) (.node kT0 (.node kT0 .nil .nil) (.node kT0 .nil .nil))) (.node o26 (.node o42 (.node o74 .nil .nil) (.node o106 .nil .nil)) (.node (o58 P) (.node o90 .nil .nil) (.node kT0 .nil .nil)))) (.node o14 (.node kT0 (.node o38 (.node o70 (.node o134 .nil .nil) .nil) (.node o102 .nil .nil)) (.node o54 (.node o86 .nil .nil) (.node o118 .nil .nil))) (.node kN0 (.node kT0 (.node o78 .nil .nil) (.node o110 .nil .nil)) (.node o62 (.node o94 .nil .nil) (.node o126 .nil .nil)))))))
noncomputable def S7 (w : World) (os : OsState) : SharedT := ⟨T7 w.params, 136, hLife, #[], ⟨0, 0, 0, 0⟩, 362, os⟩
noncomputable def o3_3 (P : Params) : Obj := kDict [e P (Str.ofString "__name__") 165 (.str (Str.ofString "vectorcove.values") 194), e P (Str.ofString "__doc__") 166 .none, e P (Str.ofString "__package__") 167 .none, e P (Str.ofString "__loader__") 168 (.builtin "__main__.__loader__#opaque"), e P (Str.ofString "__spec__") 169 .none, e P (Str.ofString "__annotations__") 170 (.ref 6), e P (Str.ofString "__builtins__") 171 (.ref 4), e P (Str.ofString "__file__") 173 (.str (Str.ofString "/claim/cut.py") 172), e P (Str.ofString "__cached__") 174 .none, e P (Str.ofString "_wall") 193 (.ref 21), e P (Str.ofString "Null") 224 (.ref 38), e P (Str.ofString "Missing") 253 (.ref 59), e P (Str.ofString "Vector") 295 (.ref 88), e P (Str.ofString "Symbol") 326 (.ref 109), e P (Str.ofString "Call") 361 (.ref 131), e P (Str.ofString "Closure") 397 (.ref 153), e P (Str.ofString "Environment") 434 (.ref 175)] 17
noncomputable def o12_3 : Obj := kNote [(.int 1 0), (.int 0 0), (.ref 20), (.int 5 0), (.int 0 0), (.ref 27), (.int 10 0), (.int 0 0), (.ref 48), (.int 15 0), (.int 0 0), (.ref 69), (.int 26 0), (.int 0 0), (.ref 98), (.int 32 0), (.int 0 0), (.ref 119), (.int 40 0), (.int 0 0), (.ref 141), (.int 48 0), (.int 0 0), (.ref 163)]
noncomputable def o137 : Obj := kFld "builtin_function_or_method" [(.builtin "type.__prepare__"), (.type "type")]
noncomputable def o138 (P : Params) : Obj := kDict [e P (Str.ofString "__module__") 369 (.str (Str.ofString "vectorcove.values") 194), e P (Str.ofString "__qualname__") 371 (.str (Str.ofString "Closure") 370), e P (Str.ofString "__firstlineno__") 373 (.int 40 372), e P (Str.ofString "__init__") 384 (.ref 150), e P (Str.ofString "__static_attributes__") 390 (.ref 151)] 5
noncomputable def o140 : Obj := kNote [(.int 42 0), (.int 4 0), (.ref 149)]
noncomputable def o141 : Obj := kCodeC (Str.ofString "Closure") (Str.ofString "Closure") 364 40 (.ref 139) 181 (.ref 140) 367 368
noncomputable def o142 : Obj := kFrm 141 138 (.str (Str.ofString "vectorcove.values") 194)
noncomputable def o143 : Obj := kTup [.none]
noncomputable def o146 : Obj := kTup [(.str (Str.ofString "self") 377), (.str (Str.ofString "formals") 378), (.str (Str.ofString "body") 379), (.str (Str.ofString "env") 380), (.str (Str.ofString "attrs") 381)]
noncomputable def o148 : Obj := kFn0 (Str.ofString "__init__") (Str.ofString "Closure.__init__") (nth 0 (fBody s7))
noncomputable def o149 : Obj := kCode (Str.ofString "__init__") (Str.ofString "Closure.__init__") 374 42 5 (.ref 144) (.ref 145) (.ref 146) (.ref 147) (.ref 148) 382 383
noncomputable def o150 : Obj := kFn (Str.ofString "__init__") (Str.ofString "Closure.__init__") (nth 0 (fBody s7)) (.ref 143) (.str (Str.ofString "vectorcove.values") 194) 149
noncomputable def o151 : Obj := kTup [(.str (Str.ofString "attrs") 385), (.str (Str.ofString "body") 386), (.str (Str.ofString "env") 387), (.str (Str.ofString "formals") 388), (.str (Str.ofString "kind") 389)]
noncomputable def o152 (P : Params) : Obj := kDict [e P (Str.ofString "__module__") 369 (.str (Str.ofString "vectorcove.values") 194), e P (Str.ofString "__firstlineno__") 373 (.int 40 372), e P (Str.ofString "__init__") 384 (.ref 150), e P (Str.ofString "__static_attributes__") 390 (.ref 151), e P (Str.ofString "__dict__") 392 (.ref 154), e P (Str.ofString "__weakref__") 394 (.ref 155), e P (Str.ofString "__doc__") 395 .none] 4
noncomputable def o153 : Obj := kCls (Str.ofString "Closure") 153 152 362 370
noncomputable def o154 : Obj := kFld "getset_descriptor" [(.str (Str.ofString "__dict__") 391), (.ref 153), (.builtin "function.__dict__"), (.builtin "function.__dict__#set")]
noncomputable def o155 : Obj := kFld "getset_descriptor" [(.str (Str.ofString "__weakref__") 393), (.ref 153), (.builtin "ExceptionGroup.__weakref__"), .none]
noncomputable def o156 : Obj := kFld "super" [(.ref 153), (.ref 153), (.ref 153)]
noncomputable def o157 : Obj := kFld "builtin_function_or_method" [(.builtin "object.__init_subclass__"), (.ref 153)]
noncomputable def o159 : Obj := kFld "builtin_function_or_method" [(.builtin "type.__prepare__"), (.type "type")]
noncomputable def o160 (P : Params) : Obj := kDict [e P (Str.ofString "__module__") 405 (.str (Str.ofString "vectorcove.values") 194), e P (Str.ofString "__qualname__") 407 (.str (Str.ofString "Environment") 406), e P (Str.ofString "__firstlineno__") 409 (.int 48 408), e P (Str.ofString "__init__") 419 (.ref 172), e P (Str.ofString "__static_attributes__") 427 (.ref 173)] 5
noncomputable def o162 : Obj := kNote [(.int 50 0), (.int 4 0), (.ref 171)]
noncomputable def o163 : Obj := kCodeC (Str.ofString "Environment") (Str.ofString "Environment") 400 48 (.ref 161) 181 (.ref 162) 403 404
noncomputable def o164 : Obj := kFrm 163 160 (.str (Str.ofString "vectorcove.values") 194)
noncomputable def o165 : Obj := kTup [.none]
noncomputable def o168 : Obj := kTup [(.str (Str.ofString "self") 413), (.str (Str.ofString "number") 414), (.str (Str.ofString "parent") 415), (.str (Str.ofString "attrs") 416)]
noncomputable def o170 : Obj := kFn0 (Str.ofString "__init__") (Str.ofString "Environment.__init__") (nth 0 (fBody s8))
noncomputable def o171 : Obj := kCode (Str.ofString "__init__") (Str.ofString "Environment.__init__") 410 50 4 (.ref 166) (.ref 167) (.ref 168) (.ref 169) (.ref 170) 417 418
noncomputable def o172 : Obj := kFn (Str.ofString "__init__") (Str.ofString "Environment.__init__") (nth 0 (fBody s8)) (.ref 165) (.str (Str.ofString "vectorcove.values") 194) 171
noncomputable def o173 : Obj := kTup [(.str (Str.ofString "attrs") 420), (.str (Str.ofString "frame") 421), (.str (Str.ofString "kind") 422), (.str (Str.ofString "locked") 423), (.str (Str.ofString "locks") 424), (.str (Str.ofString "number") 425), (.str (Str.ofString "parent") 426)]
noncomputable def o174 (P : Params) : Obj := kDict [e P (Str.ofString "__module__") 405 (.str (Str.ofString "vectorcove.values") 194), e P (Str.ofString "__firstlineno__") 409 (.int 48 408), e P (Str.ofString "__init__") 419 (.ref 172), e P (Str.ofString "__static_attributes__") 427 (.ref 173), e P (Str.ofString "__dict__") 429 (.ref 176), e P (Str.ofString "__weakref__") 431 (.ref 177), e P (Str.ofString "__doc__") 432 .none] 4
noncomputable def o175 : Obj := kCls (Str.ofString "Environment") 175 174 398 406
noncomputable def o176 : Obj := kFld "getset_descriptor" [(.str (Str.ofString "__dict__") 428), (.ref 175), (.builtin "function.__dict__"), (.builtin "function.__dict__#set")]
noncomputable def o177 : Obj := kFld "getset_descriptor" [(.str (Str.ofString "__weakref__") 430), (.ref 175), (.builtin "ExceptionGroup.__weakref__"), .none]
noncomputable def o178 : Obj := kFld "super" [(.ref 175), (.ref 175), (.ref 175)]
noncomputable def o179 : Obj := kFld "builtin_function_or_method" [(.builtin "object.__init_subclass__"), (.ref 175)]
noncomputable def T9 (P : Params) : BT := (.node (boot_o_0 P) (.node (boot_o_1 P) (.node (o3_3 P) (.node (boot_o_7 P) (.node kT0 (.node o31 (.node o63 (.node o127 .nil .nil) .nil) (.node (o95 P) (.node o159 .nil .nil) .nil)) (.node o47 (.node kT0 (.node o143 .nil .nil) .nil) (.node o111 (.node o175 .nil .nil) .nil))) (.node o23 (.node o39 (.node o71 (.node o135 .nil .nil) .nil) (.node kT0 (.node kN0 .nil .nil) .nil)) (.node o55 (.node (o87 P) (.node o151 .nil .nil) .nil) (.node o119 .nil .nil)))) (.node kT0 (.node o19 (.node o35 (.node kT0 (.node o131 .nil .nil) .nil) (.node o99 (.node o163 .nil .nil) .nil)) (.node kN0 (.node o83 (.node kT0 .nil .nil) .nil) (.node o115 (.node o179 .nil .nil) .nil))) (.node o27 (.node kT0 (.node kT0 (.node kT0 .nil .nil) .nil) (.node o107 (.node o171 .nil .nil) .nil)) (.node o59 (.node o91 (.node o155 .nil .nil) .nil) (.node kN0 .nil .nil))))) (.node (boot_o_5 P) (.node (boot_o_9 P) (.node o17 (.node o33 (.node o65 (.node o129 .nil .nil) .nil) (.node o97 (.node kT0 .nil .nil) .nil)) (.node o49 (.node o81 (.node kN0 .nil .nil) .nil) (.node o113 (.node o177 .nil .nil) .nil))) (.node kT0 (.node o41 (.node kN0 (.node o137 .nil .nil) .nil) (.node o105 (.node kT0 .nil .nil) .nil)) (.node o57 (.node o89 (.node o153 .nil .nil) .nil) (.node o121 .nil .nil)))) (.node o13 (.node o21 (.node (o37 P) (.node o69 (.node o133 .nil .nil) .nil) (.node kN0 (.node o165 .nil .nil) .nil)) (.node kT0 (.node o85 (.node o149 .nil .nil) .nil) (.node kT0 .nil .nil))) (.node kT0 (.node (o45 P) (.node o77 (.node o141 .nil .nil) .nil) (.node o109 (.node o173 .nil .nil) .nil)) (.node o61 (.node kT0 (.node o157 .nil .nil) .nil) (.node kT0 .nil .nil)))))) (.node (boot_o_2 P) (.node (boot_o_4 P) (.node (boot_o_8 P) (.node kN0 (.node kT0 (.node kT0 (.node o128 .nil .nil) .nil) (.node kT0 (.node (o160 P) .nil .nil) .nil)) (.node o48 (.node kN0 (.node kT0 .nil .nil) .nil) (.node o112 (.node o176 .nil .nil) .nil))) (.node (o24 P) (.node o40 (.node kT0 (.node kT0 .nil .nil) .nil) (.node o104 (.node o168 .nil .nil) .nil)) (.node o56 (.node o88 (.node (o152 P) .nil .nil) .nil) (.node o120 .nil .nil)))) (.node o12_3 (.node o20 (.node o36 (.node o68 (.node o132 .nil .nil) .nil) (.node kT0 (.node o164 .nil .nil) .nil)) (.node o52 (.node o84 (.node o148 .nil .nil) .nil) (.node (o116 P) .nil .nil))) (.node o28 (.node o44 (.node o76 (.node o140 .nil .nil) .nil) (.node (o108 P) (.node o172 .nil .nil) .nil)) (.node o60 (.node o92 (.node o156 .nil .nil) .nil) (.node o124 .nil .nil))))) (.node (boot_o_6 P) (.node (boot_o_10 P) (.node kT0 (.node o34 (.node (o66 P) (.node (o130 P) .nil .nil) .nil) (.node o98 (.node o162 .nil .nil) .nil)) (.node kT0 (.node kT0 (.node o146 .nil .nil) .nil) (.node kT0 (.node o178 .nil .nil) .nil))) (.node o26 (.node o42 (.node o74 (.node (o138 P) .nil .nil) .nil) (.node o106 (.node o170 .nil .nil) .nil)) (.node (o58 P) (.node o90 (.node o154 .nil .nil) .nil) (.node kT0 .nil .nil)))) (.node o14 (.node kT0 (.node o38 (.node o70 (.node o134 .nil .nil) .nil) (.node o102 (.node kT0 .nil .nil) .nil)) (.node o54 (.node o86 (.node o150 .nil .nil) .nil) (.node o118 .nil .nil))) (.node kN0 (.node kT0 (.node o78 (.node o142 .nil .nil) .nil) (.node o110 (.node (o174 P) .nil .nil) .nil)) (.node o62 (.node o94 (.node kT0 .nil .nil) .nil) (.node o126 .nil .nil)))))))
noncomputable def S9 (w : World) (os : OsState) : SharedT := ⟨T9 w.params, 180, hLife, #[], ⟨0, 0, 0, 0⟩, 435, os⟩
noncomputable def o3_4 (P : Params) : Obj := kDict [e P (Str.ofString "__name__") 165 (.str (Str.ofString "vectorcove.identical") 467), e P (Str.ofString "__doc__") 166 .none, e P (Str.ofString "__package__") 167 .none, e P (Str.ofString "__loader__") 168 (.builtin "__main__.__loader__#opaque"), e P (Str.ofString "__spec__") 169 .none, e P (Str.ofString "__annotations__") 170 (.ref 6), e P (Str.ofString "__builtins__") 171 (.ref 4), e P (Str.ofString "__file__") 173 (.str (Str.ofString "/claim/cut.py") 172), e P (Str.ofString "__cached__") 174 .none, e P (Str.ofString "_wall") 193 (.ref 21), e P (Str.ofString "Null") 224 (.ref 38), e P (Str.ofString "Missing") 253 (.ref 59), e P (Str.ofString "Vector") 295 (.ref 88), e P (Str.ofString "Symbol") 326 (.ref 109), e P (Str.ofString "Call") 361 (.ref 131), e P (Str.ofString "Closure") 397 (.ref 153), e P (Str.ofString "Environment") 434 (.ref 175), e P (Str.ofString "S4Object") 466 (.ref 196), e P (Str.ofString "same_attrs") 479 (.ref 207), e P (Str.ofString "same_items") 489 (.ref 214), e P (Str.ofString "same_formals") 498 (.ref 221), e P (Str.ofString "same_slots") 507 (.ref 228), e P (Str.ofString "same_dots") 520 (.ref 235)] 23
noncomputable def o12_4 : Obj := kNote [(.int 1 0), (.int 0 0), (.ref 20), (.int 5 0), (.int 0 0), (.ref 27), (.int 10 0), (.int 0 0), (.ref 48), (.int 15 0), (.int 0 0), (.ref 69), (.int 26 0), (.int 0 0), (.ref 98), (.int 32 0), (.int 0 0), (.ref 119), (.int 40 0), (.int 0 0), (.ref 141), (.int 48 0), (.int 0 0), (.ref 163), (.int 58 0), (.int 0 0), (.ref 185), (.int 66 0), (.int 0 0), (.ref 206), (.int 75 0), (.int 0 0), (.ref 213), (.int 82 0), (.int 0 0), (.ref 220), (.int 89 0), (.int 0 0), (.ref 227), (.int 96 0), (.int 0 0), (.ref 234)]
noncomputable def o181 : Obj := kFld "builtin_function_or_method" [(.builtin "type.__prepare__"), (.type "type")]
noncomputable def o182 (P : Params) : Obj := kDict [e P (Str.ofString "__module__") 442 (.str (Str.ofString "vectorcove.values") 194), e P (Str.ofString "__qualname__") 444 (.str (Str.ofString "S4Object") 443), e P (Str.ofString "__firstlineno__") 446 (.int 58 445), e P (Str.ofString "__init__") 454 (.ref 193), e P (Str.ofString "__static_attributes__") 459 (.ref 194)] 5
noncomputable def o184 : Obj := kNote [(.int 60 0), (.int 4 0), (.ref 192)]
noncomputable def o185 : Obj := kCodeC (Str.ofString "S4Object") (Str.ofString "S4Object") 437 58 (.ref 183) 181 (.ref 184) 440 441
noncomputable def o186 : Obj := kFrm 185 182 (.str (Str.ofString "vectorcove.values") 194)
noncomputable def o189 : Obj := kTup [(.str (Str.ofString "self") 450), (.str (Str.ofString "name") 451)]
noncomputable def o191 : Obj := kFn0 (Str.ofString "__init__") (Str.ofString "S4Object.__init__") (nth 0 (fBody s9))
noncomputable def o192 : Obj := kCode (Str.ofString "__init__") (Str.ofString "S4Object.__init__") 447 60 2 (.ref 187) (.ref 188) (.ref 189) (.ref 190) (.ref 191) 452 453
noncomputable def o193 : Obj := kFn (Str.ofString "__init__") (Str.ofString "S4Object.__init__") (nth 0 (fBody s9)) .none (.str (Str.ofString "vectorcove.values") 194) 192
noncomputable def o194 : Obj := kTup [(.str (Str.ofString "attrs") 455), (.str (Str.ofString "kind") 456), (.str (Str.ofString "name") 457), (.str (Str.ofString "slots") 458)]
noncomputable def o195 (P : Params) : Obj := kDict [e P (Str.ofString "__module__") 442 (.str (Str.ofString "vectorcove.values") 194), e P (Str.ofString "__firstlineno__") 446 (.int 58 445), e P (Str.ofString "__init__") 454 (.ref 193), e P (Str.ofString "__static_attributes__") 459 (.ref 194), e P (Str.ofString "__dict__") 461 (.ref 197), e P (Str.ofString "__weakref__") 463 (.ref 198), e P (Str.ofString "__doc__") 464 .none] 4
noncomputable def o196 : Obj := kCls (Str.ofString "S4Object") 196 195 435 443
noncomputable def o197 : Obj := kFld "getset_descriptor" [(.str (Str.ofString "__dict__") 460), (.ref 196), (.builtin "function.__dict__"), (.builtin "function.__dict__#set")]
noncomputable def o198 : Obj := kFld "getset_descriptor" [(.str (Str.ofString "__weakref__") 462), (.ref 196), (.builtin "ExceptionGroup.__weakref__"), .none]
noncomputable def o199 : Obj := kFld "super" [(.ref 196), (.ref 196), (.ref 196)]
noncomputable def o200 : Obj := kFld "builtin_function_or_method" [(.builtin "object.__init_subclass__"), (.ref 196)]
noncomputable def o203 : Obj := kTup [(.str (Str.ofString "u") 472), (.str (Str.ofString "v") 473), (.str (Str.ofString "left") 474), (.str (Str.ofString "right") 475), (.str (Str.ofString "name") 476)]
noncomputable def o205 : Obj := kFn0 (Str.ofString "same_attrs") (Str.ofString "same_attrs") s11
noncomputable def o206 : Obj := kCode (Str.ofString "same_attrs") (Str.ofString "same_attrs") 469 66 2 (.ref 201) (.ref 202) (.ref 203) (.ref 204) (.ref 205) 477 478
noncomputable def o207 : Obj := kFn (Str.ofString "same_attrs") (Str.ofString "same_attrs") s11 .none (.str (Str.ofString "vectorcove.identical") 467) 206
noncomputable def o210 : Obj := kTup [(.str (Str.ofString "u") 483), (.str (Str.ofString "v") 484), (.str (Str.ofString "same") 485), (.str (Str.ofString "place") 486)]
noncomputable def o212 : Obj := kFn0 (Str.ofString "same_items") (Str.ofString "same_items") s12
noncomputable def o213 : Obj := kCode (Str.ofString "same_items") (Str.ofString "same_items") 480 75 3 (.ref 208) (.ref 209) (.ref 210) (.ref 211) (.ref 212) 487 488
noncomputable def o214 : Obj := kFn (Str.ofString "same_items") (Str.ofString "same_items") s12 .none (.str (Str.ofString "vectorcove.identical") 467) 213
noncomputable def o217 : Obj := kTup [(.str (Str.ofString "u") 493), (.str (Str.ofString "v") 494), (.str (Str.ofString "place") 495)]
noncomputable def o219 : Obj := kFn0 (Str.ofString "same_formals") (Str.ofString "same_formals") s13
noncomputable def o220 : Obj := kCode (Str.ofString "same_formals") (Str.ofString "same_formals") 490 82 2 (.ref 215) (.ref 216) (.ref 217) (.ref 218) (.ref 219) 496 497
noncomputable def o221 : Obj := kFn (Str.ofString "same_formals") (Str.ofString "same_formals") s13 .none (.str (Str.ofString "vectorcove.identical") 467) 220
noncomputable def o224 : Obj := kTup [(.str (Str.ofString "u") 502), (.str (Str.ofString "v") 503), (.str (Str.ofString "name") 504)]
noncomputable def o226 : Obj := kFn0 (Str.ofString "same_slots") (Str.ofString "same_slots") s14
noncomputable def o227 : Obj := kCode (Str.ofString "same_slots") (Str.ofString "same_slots") 499 89 2 (.ref 222) (.ref 223) (.ref 224) (.ref 225) (.ref 226) 505 506
noncomputable def o228 : Obj := kFn (Str.ofString "same_slots") (Str.ofString "same_slots") s14 .none (.str (Str.ofString "vectorcove.identical") 467) 227
noncomputable def o231 : Obj := kTup [(.str (Str.ofString "u") 511), (.str (Str.ofString "v") 512), (.str (Str.ofString "place") 513), (.str (Str.ofString "tag") 514), (.str (Str.ofString "value") 515), (.str (Str.ofString "other") 516), (.str (Str.ofString "against") 517)]
noncomputable def o233 : Obj := kFn0 (Str.ofString "same_dots") (Str.ofString "same_dots") s15
noncomputable def o234 : Obj := kCode (Str.ofString "same_dots") (Str.ofString "same_dots") 508 96 2 (.ref 229) (.ref 230) (.ref 231) (.ref 232) (.ref 233) 518 519
noncomputable def o235 : Obj := kFn (Str.ofString "same_dots") (Str.ofString "same_dots") s15 .none (.str (Str.ofString "vectorcove.identical") 467) 234
noncomputable def T16 (P : Params) : BT := (.node (boot_o_0 P) (.node (boot_o_1 P) (.node (o3_4 P) (.node (boot_o_7 P) (.node kT0 (.node o31 (.node o63 (.node o127 .nil .nil) (.node o191 .nil .nil)) (.node (o95 P) (.node o159 .nil .nil) (.node kN0 .nil .nil))) (.node o47 (.node kT0 (.node o143 .nil .nil) (.node o207 .nil .nil)) (.node o111 (.node o175 .nil .nil) .nil))) (.node o23 (.node o39 (.node o71 (.node o135 .nil .nil) (.node o199 .nil .nil)) (.node kT0 (.node kN0 .nil .nil) (.node o231 .nil .nil))) (.node o55 (.node (o87 P) (.node o151 .nil .nil) (.node kT0 .nil .nil)) (.node o119 (.node kT0 .nil .nil) .nil)))) (.node kT0 (.node o19 (.node o35 (.node kT0 (.node o131 .nil .nil) (.node (o195 P) .nil .nil)) (.node o99 (.node o163 .nil .nil) (.node o227 .nil .nil))) (.node kN0 (.node o83 (.node kT0 .nil .nil) (.node kT0 .nil .nil)) (.node o115 (.node o179 .nil .nil) .nil))) (.node o27 (.node kT0 (.node kT0 (.node kT0 .nil .nil) (.node o203 .nil .nil)) (.node o107 (.node o171 .nil .nil) (.node o235 .nil .nil))) (.node o59 (.node o91 (.node o155 .nil .nil) (.node o219 .nil .nil)) (.node kN0 (.node kT0 .nil .nil) .nil))))) (.node (boot_o_5 P) (.node (boot_o_9 P) (.node o17 (.node o33 (.node o65 (.node o129 .nil .nil) (.node o193 .nil .nil)) (.node o97 (.node kT0 .nil .nil) (.node kT0 .nil .nil))) (.node o49 (.node o81 (.node kN0 .nil .nil) (.node kN0 .nil .nil)) (.node o113 (.node o177 .nil .nil) .nil))) (.node kT0 (.node o41 (.node kN0 (.node o137 .nil .nil) (.node kT0 .nil .nil)) (.node o105 (.node kT0 .nil .nil) (.node o233 .nil .nil))) (.node o57 (.node o89 (.node o153 .nil .nil) (.node o217 .nil .nil)) (.node o121 (.node o185 .nil .nil) .nil)))) (.node o13 (.node o21 (.node (o37 P) (.node o69 (.node o133 .nil .nil) (.node o197 .nil .nil)) (.node kN0 (.node o165 .nil .nil) (.node kT0 .nil .nil))) (.node kT0 (.node o85 (.node o149 .nil .nil) (.node o213 .nil .nil)) (.node kT0 (.node o181 .nil .nil) .nil))) (.node kT0 (.node (o45 P) (.node o77 (.node o141 .nil .nil) (.node o205 .nil .nil)) (.node o109 (.node o173 .nil .nil) .nil)) (.node o61 (.node kT0 (.node o157 .nil .nil) (.node o221 .nil .nil)) (.node kT0 (.node o189 .nil .nil) .nil)))))) (.node (boot_o_2 P) (.node (boot_o_4 P) (.node (boot_o_8 P) (.node kN0 (.node kT0 (.node kT0 (.node o128 .nil .nil) (.node o192 .nil .nil)) (.node kT0 (.node (o160 P) .nil .nil) (.node o224 .nil .nil))) (.node o48 (.node kN0 (.node kT0 .nil .nil) (.node kT0 .nil .nil)) (.node o112 (.node o176 .nil .nil) .nil))) (.node (o24 P) (.node o40 (.node kT0 (.node kT0 .nil .nil) (.node o200 .nil .nil)) (.node o104 (.node o168 .nil .nil) (.node kT0 .nil .nil))) (.node o56 (.node o88 (.node (o152 P) .nil .nil) (.node kN0 .nil .nil)) (.node o120 (.node o184 .nil .nil) .nil)))) (.node o12_4 (.node o20 (.node o36 (.node o68 (.node o132 .nil .nil) (.node o196 .nil .nil)) (.node kT0 (.node o164 .nil .nil) (.node o228 .nil .nil))) (.node o52 (.node o84 (.node o148 .nil .nil) (.node o212 .nil .nil)) (.node (o116 P) (.node kT0 .nil .nil) .nil))) (.node o28 (.node o44 (.node o76 (.node o140 .nil .nil) (.node kT0 .nil .nil)) (.node (o108 P) (.node o172 .nil .nil) .nil)) (.node o60 (.node o92 (.node o156 .nil .nil) (.node o220 .nil .nil)) (.node o124 (.node kN0 .nil .nil) .nil))))) (.node (boot_o_6 P) (.node (boot_o_10 P) (.node kT0 (.node o34 (.node (o66 P) (.node (o130 P) .nil .nil) (.node o194 .nil .nil)) (.node o98 (.node o162 .nil .nil) (.node o226 .nil .nil))) (.node kT0 (.node kT0 (.node o146 .nil .nil) (.node o210 .nil .nil)) (.node kT0 (.node o178 .nil .nil) .nil))) (.node o26 (.node o42 (.node o74 (.node (o138 P) .nil .nil) (.node kN0 .nil .nil)) (.node o106 (.node o170 .nil .nil) (.node o234 .nil .nil))) (.node (o58 P) (.node o90 (.node o154 .nil .nil) (.node kT0 .nil .nil)) (.node kT0 (.node o186 .nil .nil) .nil)))) (.node o14 (.node kT0 (.node o38 (.node o70 (.node o134 .nil .nil) (.node o198 .nil .nil)) (.node o102 (.node kT0 .nil .nil) (.node kN0 .nil .nil))) (.node o54 (.node o86 (.node o150 .nil .nil) (.node o214 .nil .nil)) (.node o118 (.node (o182 P) .nil .nil) .nil))) (.node kN0 (.node kT0 (.node o78 (.node o142 .nil .nil) (.node o206 .nil .nil)) (.node o110 (.node (o174 P) .nil .nil) .nil)) (.node o62 (.node o94 (.node kT0 .nil .nil) (.node kT0 .nil .nil)) (.node o126 (.node kT0 .nil .nil) .nil)))))))
noncomputable def S16 (w : World) (os : OsState) : SharedT := ⟨T16 w.params, 236, hLife, #[], ⟨0, 0, 0, 0⟩, 521, os⟩
noncomputable def o3_5 (P : Params) : Obj := kDict [e P (Str.ofString "__name__") 165 (.str (Str.ofString "law_nz0471_01") 554), e P (Str.ofString "__doc__") 166 .none, e P (Str.ofString "__package__") 167 .none, e P (Str.ofString "__loader__") 168 (.builtin "__main__.__loader__#opaque"), e P (Str.ofString "__spec__") 169 .none, e P (Str.ofString "__annotations__") 170 (.ref 6), e P (Str.ofString "__builtins__") 171 (.ref 4), e P (Str.ofString "__file__") 173 (.str (Str.ofString "/claim/cut.py") 172), e P (Str.ofString "__cached__") 174 .none, e P (Str.ofString "_wall") 193 (.ref 21), e P (Str.ofString "Null") 224 (.ref 38), e P (Str.ofString "Missing") 253 (.ref 59), e P (Str.ofString "Vector") 295 (.ref 88), e P (Str.ofString "Symbol") 326 (.ref 109), e P (Str.ofString "Call") 361 (.ref 131), e P (Str.ofString "Closure") 397 (.ref 153), e P (Str.ofString "Environment") 434 (.ref 175), e P (Str.ofString "S4Object") 466 (.ref 196), e P (Str.ofString "same_attrs") 479 (.ref 207), e P (Str.ofString "same_items") 489 (.ref 214), e P (Str.ofString "same_formals") 498 (.ref 221), e P (Str.ofString "same_slots") 507 (.ref 228), e P (Str.ofString "same_dots") 520 (.ref 235), e P (Str.ofString "same_kernel") 530 (.ref 242), e P (Str.ofString "identical") 538 (.ref 249), e P (Str.ofString "names_items") 545 (.ref 256), e P (Str.ofString "same_code") 553 (.ref 263), e P (Str.ofString "_law_row") 566 (.ref 270), e P (Str.ofString "_law_next") 573 (.ref 277), e P (Str.ofString "_law_made") 579 (.ref 282), e P (Str.ofString "_law_again") 585 (.ref 287), e P (Str.ofString "_law_altered") 591 (.ref 292), e P (Str.ofString "law") 607 (.ref 299)] 33
noncomputable def o12_5 : Obj := kNote [(.int 1 0), (.int 0 0), (.ref 20), (.int 5 0), (.int 0 0), (.ref 27), (.int 10 0), (.int 0 0), (.ref 48), (.int 15 0), (.int 0 0), (.ref 69), (.int 26 0), (.int 0 0), (.ref 98), (.int 32 0), (.int 0 0), (.ref 119), (.int 40 0), (.int 0 0), (.ref 141), (.int 48 0), (.int 0 0), (.ref 163), (.int 58 0), (.int 0 0), (.ref 185), (.int 66 0), (.int 0 0), (.ref 206), (.int 75 0), (.int 0 0), (.ref 213), (.int 82 0), (.int 0 0), (.ref 220), (.int 89 0), (.int 0 0), (.ref 227), (.int 96 0), (.int 0 0), (.ref 234), (.int 105 0), (.int 0 0), (.ref 241), (.int 127 0), (.int 0 0), (.ref 248), (.int 131 0), (.int 0 0), (.ref 255), (.int 135 0), (.int 0 0), (.ref 262), (.int 147 0), (.int 0 0), (.ref 269), (.int 160 0), (.int 0 0), (.ref 276), (.int 162 0), (.int 0 0), (.ref 281), (.int 194 0), (.int 0 0), (.ref 286), (.int 217 0), (.int 0 0), (.ref 291), (.int 261 0), (.int 0 0), (.ref 298)]
noncomputable def o238 : Obj := kTup [(.str (Str.ofString "u") 524), (.str (Str.ofString "v") 525), (.str (Str.ofString "kind") 526), (.str (Str.ofString "same_home") 527)]
noncomputable def o240 : Obj := kFn0 (Str.ofString "same_kernel") (Str.ofString "same_kernel") s16
noncomputable def o241 : Obj := kCode (Str.ofString "same_kernel") (Str.ofString "same_kernel") 521 105 2 (.ref 236) (.ref 237) (.ref 238) (.ref 239) (.ref 240) 528 529
noncomputable def o242 : Obj := kFn (Str.ofString "same_kernel") (Str.ofString "same_kernel") s16 .none (.str (Str.ofString "vectorcove.identical") 467) 241
noncomputable def o245 : Obj := kTup [(.str (Str.ofString "u") 534), (.str (Str.ofString "v") 535)]
noncomputable def o247 : Obj := kFn0 (Str.ofString "identical") (Str.ofString "identical") s17
noncomputable def o248 : Obj := kCode (Str.ofString "identical") (Str.ofString "identical") 531 127 2 (.ref 243) (.ref 244) (.ref 245) (.ref 246) (.ref 247) 536 537
noncomputable def o249 : Obj := kFn (Str.ofString "identical") (Str.ofString "identical") s17 .none (.str (Str.ofString "vectorcove.identical") 467) 248
noncomputable def o252 : Obj := kTup [(.str (Str.ofString "v") 542)]
noncomputable def o254 : Obj := kFn0 (Str.ofString "names_items") (Str.ofString "names_items") s18
noncomputable def o255 : Obj := kCode (Str.ofString "names_items") (Str.ofString "names_items") 539 131 1 (.ref 250) (.ref 251) (.ref 252) (.ref 253) (.ref 254) 543 544
noncomputable def o256 : Obj := kFn (Str.ofString "names_items") (Str.ofString "names_items") s18 .none (.str (Str.ofString "vectorcove.identical") 467) 255
noncomputable def o259 : Obj := kTup [(.str (Str.ofString "u") 549), (.str (Str.ofString "v") 550)]
noncomputable def o261 : Obj := kFn0 (Str.ofString "same_code") (Str.ofString "same_code") s19
noncomputable def o262 : Obj := kCode (Str.ofString "same_code") (Str.ofString "same_code") 546 135 2 (.ref 257) (.ref 258) (.ref 259) (.ref 260) (.ref 261) 551 552
noncomputable def o263 : Obj := kFn (Str.ofString "same_code") (Str.ofString "same_code") s19 .none (.str (Str.ofString "vectorcove.identical") 467) 262
noncomputable def o266 : Obj := kTup [(.str (Str.ofString "script") 559), (.str (Str.ofString "row") 560), (.str (Str.ofString "cell") 561), (.str (Str.ofString "figure") 562), (.str (Str.ofString "lap") 563)]
noncomputable def o268 : Obj := kFn0 (Str.ofString "_law_row") (Str.ofString "_law_row") s21
noncomputable def o269 : Obj := kCode (Str.ofString "_law_row") (Str.ofString "_law_row") 556 147 1 (.ref 264) (.ref 265) (.ref 266) (.ref 267) (.ref 268) 564 565
noncomputable def o270 : Obj := kFn (Str.ofString "_law_row") (Str.ofString "_law_row") s21 .none (.str (Str.ofString "law_nz0471_01") 554) 269
noncomputable def o273 : Obj := kTup [(.str (Str.ofString "row") 570)]
noncomputable def o275 : Obj := kFn0 (Str.ofString "_law_next") (Str.ofString "_law_next") s22
noncomputable def o276 : Obj := kCode (Str.ofString "_law_next") (Str.ofString "_law_next") 567 160 1 (.ref 271) (.ref 272) (.ref 273) (.ref 274) (.ref 275) 571 572
noncomputable def o277 : Obj := kFn (Str.ofString "_law_next") (Str.ofString "_law_next") s22 .none (.str (Str.ofString "law_nz0471_01") 554) 276
noncomputable def o280 : Obj := kFn0 (Str.ofString "_law_made") (Str.ofString "_law_made") s23
noncomputable def o281 : Obj := kCode (Str.ofString "_law_made") (Str.ofString "_law_made") 574 162 3 (.ref 278) (.ref 279) .none .none (.ref 280) 577 578
noncomputable def o282 : Obj := kFn (Str.ofString "_law_made") (Str.ofString "_law_made") s23 .none (.str (Str.ofString "law_nz0471_01") 554) 281
noncomputable def o285 : Obj := kFn0 (Str.ofString "_law_again") (Str.ofString "_law_again") s24
noncomputable def o286 : Obj := kCode (Str.ofString "_law_again") (Str.ofString "_law_again") 580 194 1 (.ref 283) (.ref 284) .none .none (.ref 285) 583 584
noncomputable def o287 : Obj := kFn (Str.ofString "_law_again") (Str.ofString "_law_again") s24 .none (.str (Str.ofString "law_nz0471_01") 554) 286
noncomputable def o290 : Obj := kFn0 (Str.ofString "_law_altered") (Str.ofString "_law_altered") s25
noncomputable def o291 : Obj := kCode (Str.ofString "_law_altered") (Str.ofString "_law_altered") 586 217 2 (.ref 288) (.ref 289) .none .none (.ref 290) 589 590
noncomputable def o292 : Obj := kFn (Str.ofString "_law_altered") (Str.ofString "_law_altered") s25 .none (.str (Str.ofString "law_nz0471_01") 554) 291
noncomputable def o295 : Obj := kTup [(.str (Str.ofString "script") 595), (.str (Str.ofString "row") 596), (.str (Str.ofString "homes") 597), (.str (Str.ofString "v") 598), (.str (Str.ofString "again") 599), (.str (Str.ofString "other") 600), (.str (Str.ofString "code_of_x") 601), (.str (Str.ofString "same") 602), (.str (Str.ofString "named_so") 603), (.str (Str.ofString "bare") 604)]
noncomputable def o297 : Obj := kFn0 (Str.ofString "law") (Str.ofString "law") s26
noncomputable def o298 : Obj := kCode (Str.ofString "law") (Str.ofString "law") 592 261 1 (.ref 293) (.ref 294) (.ref 295) (.ref 296) (.ref 297) 605 606
noncomputable def o299 : Obj := kFn (Str.ofString "law") (Str.ofString "law") s26 .none (.str (Str.ofString "law_nz0471_01") 554) 298
noncomputable def T27 (P : Params) : BT := (.node (boot_o_0 P) (.node (boot_o_1 P) (.node (o3_5 P) (.node (boot_o_7 P) (.node kT0 (.node o31 (.node o63 (.node o127 (.node o255 .nil .nil) .nil) (.node o191 .nil .nil)) (.node (o95 P) (.node o159 (.node o287 .nil .nil) .nil) (.node kN0 .nil .nil))) (.node o47 (.node kT0 (.node o143 (.node kT0 .nil .nil) .nil) (.node o207 .nil .nil)) (.node o111 (.node o175 .nil .nil) (.node kT0 .nil .nil)))) (.node o23 (.node o39 (.node o71 (.node o135 (.node o263 .nil .nil) .nil) (.node o199 .nil .nil)) (.node kT0 (.node kN0 (.node o295 .nil .nil) .nil) (.node o231 .nil .nil))) (.node o55 (.node (o87 P) (.node o151 (.node kN0 .nil .nil) .nil) (.node kT0 .nil .nil)) (.node o119 (.node kT0 .nil .nil) (.node o247 .nil .nil))))) (.node kT0 (.node o19 (.node o35 (.node kT0 (.node o131 (.node o259 .nil .nil) .nil) (.node (o195 P) .nil .nil)) (.node o99 (.node o163 (.node o291 .nil .nil) .nil) (.node o227 .nil .nil))) (.node kN0 (.node o83 (.node kT0 (.node o275 .nil .nil) .nil) (.node kT0 .nil .nil)) (.node o115 (.node o179 .nil .nil) (.node kT0 .nil .nil)))) (.node o27 (.node kT0 (.node kT0 (.node kT0 (.node kT0 .nil .nil) .nil) (.node o203 .nil .nil)) (.node o107 (.node o171 (.node o299 .nil .nil) .nil) (.node o235 .nil .nil))) (.node o59 (.node o91 (.node o155 (.node kT0 .nil .nil) .nil) (.node o219 .nil .nil)) (.node kN0 (.node kT0 .nil .nil) (.node kN0 .nil .nil)))))) (.node (boot_o_5 P) (.node (boot_o_9 P) (.node o17 (.node o33 (.node o65 (.node o129 (.node kT0 .nil .nil) .nil) (.node o193 .nil .nil)) (.node o97 (.node kT0 (.node kN0 .nil .nil) .nil) (.node kT0 .nil .nil))) (.node o49 (.node o81 (.node kN0 (.node o273 .nil .nil) .nil) (.node kN0 .nil .nil)) (.node o113 (.node o177 .nil .nil) (.node o241 .nil .nil)))) (.node kT0 (.node o41 (.node kN0 (.node o137 (.node kN0 .nil .nil) .nil) (.node kT0 .nil .nil)) (.node o105 (.node kT0 (.node o297 .nil .nil) .nil) (.node o233 .nil .nil))) (.node o57 (.node o89 (.node o153 (.node o281 .nil .nil) .nil) (.node o217 .nil .nil)) (.node o121 (.node o185 .nil .nil) (.node o249 .nil .nil))))) (.node o13 (.node o21 (.node (o37 P) (.node o69 (.node o133 (.node o261 .nil .nil) .nil) (.node o197 .nil .nil)) (.node kN0 (.node o165 (.node kT0 .nil .nil) .nil) (.node kT0 .nil .nil))) (.node kT0 (.node o85 (.node o149 (.node o277 .nil .nil) .nil) (.node o213 .nil .nil)) (.node kT0 (.node o181 .nil .nil) (.node o245 .nil .nil)))) (.node kT0 (.node (o45 P) (.node o77 (.node o141 (.node o269 .nil .nil) .nil) (.node o205 .nil .nil)) (.node o109 (.node o173 .nil .nil) (.node kN0 .nil .nil))) (.node o61 (.node kT0 (.node o157 (.node o285 .nil .nil) .nil) (.node o221 .nil .nil)) (.node kT0 (.node o189 .nil .nil) (.node kT0 .nil .nil))))))) (.node (boot_o_2 P) (.node (boot_o_4 P) (.node (boot_o_8 P) (.node kN0 (.node kT0 (.node kT0 (.node o128 (.node o256 .nil .nil) .nil) (.node o192 .nil .nil)) (.node kT0 (.node (o160 P) (.node kT0 .nil .nil) .nil) (.node o224 .nil .nil))) (.node o48 (.node kN0 (.node kT0 (.node kN0 .nil .nil) .nil) (.node kT0 .nil .nil)) (.node o112 (.node o176 .nil .nil) (.node o240 .nil .nil)))) (.node (o24 P) (.node o40 (.node kT0 (.node kT0 (.node kT0 .nil .nil) .nil) (.node o200 .nil .nil)) (.node o104 (.node o168 (.node kT0 .nil .nil) .nil) (.node kT0 .nil .nil))) (.node o56 (.node o88 (.node (o152 P) (.node o280 .nil .nil) .nil) (.node kN0 .nil .nil)) (.node o120 (.node o184 .nil .nil) (.node o248 .nil .nil))))) (.node o12_5 (.node o20 (.node o36 (.node o68 (.node o132 (.node kT0 .nil .nil) .nil) (.node o196 .nil .nil)) (.node kT0 (.node o164 (.node o292 .nil .nil) .nil) (.node o228 .nil .nil))) (.node o52 (.node o84 (.node o148 (.node o276 .nil .nil) .nil) (.node o212 .nil .nil)) (.node (o116 P) (.node kT0 .nil .nil) (.node kN0 .nil .nil)))) (.node o28 (.node o44 (.node o76 (.node o140 (.node o268 .nil .nil) .nil) (.node kT0 .nil .nil)) (.node (o108 P) (.node o172 .nil .nil) (.node kT0 .nil .nil))) (.node o60 (.node o92 (.node o156 (.node kN0 .nil .nil) .nil) (.node o220 .nil .nil)) (.node o124 (.node kN0 .nil .nil) (.node o252 .nil .nil)))))) (.node (boot_o_6 P) (.node (boot_o_10 P) (.node kT0 (.node o34 (.node (o66 P) (.node (o130 P) (.node kN0 .nil .nil) .nil) (.node o194 .nil .nil)) (.node o98 (.node o162 (.node o290 .nil .nil) .nil) (.node o226 .nil .nil))) (.node kT0 (.node kT0 (.node o146 (.node kT0 .nil .nil) .nil) (.node o210 .nil .nil)) (.node kT0 (.node o178 .nil .nil) (.node o242 .nil .nil)))) (.node o26 (.node o42 (.node o74 (.node (o138 P) (.node o266 .nil .nil) .nil) (.node kN0 .nil .nil)) (.node o106 (.node o170 (.node o298 .nil .nil) .nil) (.node o234 .nil .nil))) (.node (o58 P) (.node o90 (.node o154 (.node o282 .nil .nil) .nil) (.node kT0 .nil .nil)) (.node kT0 (.node o186 .nil .nil) (.node kT0 .nil .nil))))) (.node o14 (.node kT0 (.node o38 (.node o70 (.node o134 (.node o262 .nil .nil) .nil) (.node o198 .nil .nil)) (.node o102 (.node kT0 (.node kN0 .nil .nil) .nil) (.node kN0 .nil .nil))) (.node o54 (.node o86 (.node o150 (.node kT0 .nil .nil) .nil) (.node o214 .nil .nil)) (.node o118 (.node (o182 P) .nil .nil) (.node kT0 .nil .nil)))) (.node kN0 (.node kT0 (.node o78 (.node o142 (.node o270 .nil .nil) .nil) (.node o206 .nil .nil)) (.node o110 (.node (o174 P) .nil .nil) (.node o238 .nil .nil))) (.node o62 (.node o94 (.node kT0 (.node o286 .nil .nil) .nil) (.node kT0 .nil .nil)) (.node o126 (.node kT0 .nil .nil) (.node o254 .nil .nil))))))))
noncomputable def S27 (w : World) (os : OsState) : SharedT := ⟨T27 w.params, 300, hLife, #[], ⟨0, 0, 0, 0⟩, 608, os⟩
noncomputable def HF (P : Params) : Heap := ⟨⟨[(boot_o_0 P), (boot_o_1 P), (boot_o_2 P), (o3_5 P), (boot_o_4 P), (boot_o_5 P), (boot_o_6 P), (boot_o_7 P), (boot_o_8 P), (boot_o_9 P), (boot_o_10 P), kT0, o12_5, o13, o14, kT0, kN0, o17, kT0, o19, o20, o21, kT0, o23, (o24 P), kT0, o26, o27, o28, kT0, kN0, o31, kT0, o33, o34, o35, o36, (o37 P), o38, o39, o40, o41, o42, kT0, o44, (o45 P), kT0, o47, o48, o49, kT0, kN0, o52, kT0, o54, o55, o56, o57, (o58 P), o59, o60, o61, o62, o63, kT0, o65, (o66 P), kT0, o68, o69, o70, o71, kT0, kN0, o74, kT0, o76, o77, o78, kT0, kN0, o81, kT0, o83, o84, o85, o86, (o87 P), o88, o89, o90, o91, o92, kT0, o94, (o95 P), kT0, o97, o98, o99, kT0, kN0, o102, kT0, o104, o105, o106, o107, (o108 P), o109, o110, o111, o112, o113, kT0, o115, (o116 P), kT0, o118, o119, o120, o121, kT0, kN0, o124, kT0, o126, o127, o128, o129, (o130 P), o131, o132, o133, o134, o135, kT0, o137, (o138 P), kT0, o140, o141, o142, o143, kT0, kN0, o146, kT0, o148, o149, o150, o151, (o152 P), o153, o154, o155, o156, o157, kT0, o159, (o160 P), kT0, o162, o163, o164, o165, kT0, kN0, o168, kT0, o170, o171, o172, o173, (o174 P), o175, o176, o177, o178, o179, kT0, o181, (o182 P), kT0, o184, o185, o186, kT0, kN0, o189, kT0, o191, o192, o193, o194, (o195 P), o196, o197, o198, o199, o200, kT0, kN0, o203, kT0, o205, o206, o207, kT0, kN0, o210, kT0, o212, o213, o214, kT0, kN0, o217, kT0, o219, o220, o221, kT0, kN0, o224, kT0, o226, o227, o228, kT0, kN0, o231, kT0, o233, o234, o235, kT0, kN0, o238, kT0, o240, o241, o242, kT0, kN0, o245, kT0, o247, o248, o249, kT0, kN0, o252, kT0, o254, o255, o256, kT0, kN0, o259, kT0, o261, o262, o263, kT0, kN0, o266, kT0, o268, o269, o270, kT0, kN0, o273, kT0, o275, o276, o277, kT0, kN0, o280, o281, o282, kT0, kN0, o285, o286, o287, kT0, kN0, o290, o291, o292, kT0, kN0, o295, kT0, o297, o298, o299]⟩, hLife⟩
noncomputable def hEnv : Env := { scope := pw.main.scope, locals := mainNs, globals := mainNs, cells := [], code := .ref 13, frame := some 14 }
noncomputable def b3 : List Stmt := [s0, s1, s2]
noncomputable def b5 : List Stmt := [s3, s4]
noncomputable def b7 : List Stmt := [s5, s6]
noncomputable def b9 : List Stmt := [s7, s8]
noncomputable def b16 : List Stmt := [s9, s10, s11, s12, s13, s14, s15]
noncomputable def b27 : List Stmt := [s16, s17, s18, s19, s20, s21, s22, s23, s24, s25, s26]
noncomputable def hb : List Stmt := b3 ++ (b5 ++ (b7 ++ (b9 ++ (b16 ++ (b27 ++ ([]))))))
noncomputable abbrev hc0 : Code := .body hb hEnv
noncomputable abbrev hB : List Frame := [topFrame ⟨0, 0, 0, 0⟩]
noncomputable abbrev twSeg := @Fast.tw10110043849684766642
noncomputable abbrev twTab := Fast.tw14364793385576792824
noncomputable abbrev twExecs := @Fast.tw12563942051412417395
theorem quick {l : List Stmt} {w : World} {n : Nat} {s : SharedT} {p : Pos} {r : Option (Flow × SharedT × Code × Pos)} (h : twSeg twTab pw w 11 (some (.ref 6)) 1 n s ⟨(twExecs l hEnv).wrap doneF deadEnd id id, hc0, p, hB⟩ = r) :
    segRunT treeTable pw w 11 (some (.ref 6)) 1 n s (piecesOf l hEnv hc0 p hB) = r := by
  show segRunT treeTable pw w 11 (some (.ref 6)) 1 n s ⟨(execs l hEnv).wrap doneF deadEnd id id, hc0, p, hB⟩ = r
  rw [Fast.te10110043849684766642, Fast.te14364793385576792824, Fast.te12563942051412417395]
  exact h
set_option maxHeartbeats 0 in
theorem piece3 (w : World) (os : OsState) : twSeg twTab pw w 11 (some (.ref 6)) 1 261 (S0 w os) ⟨(twExecs b3 hEnv).wrap doneF deadEnd id id, hc0, ⟨0, 0, 0, 0⟩, hB⟩ = some (.next, S3 w os, hc0, ⟨5, 0, 9, 25⟩) := by kernel_rfl
set_option maxHeartbeats 0 in
theorem piece5 (w : World) (os : OsState) : twSeg twTab pw w 11 (some (.ref 6)) 1 483 (S3 w os) ⟨(twExecs b5 hEnv).wrap doneF deadEnd id id, hc0, ⟨5, 0, 9, 25⟩, hB⟩ = some (.next, S5 w os, hc0, ⟨15, 0, 25, 16⟩) := by kernel_rfl
set_option maxHeartbeats 0 in
theorem piece7 (w : World) (os : OsState) : twSeg twTab pw w 11 (some (.ref 6)) 1 454 (S5 w os) ⟨(twExecs b7 hEnv).wrap doneF deadEnd id id, hc0, ⟨15, 0, 25, 16⟩, hB⟩ = some (.next, S7 w os, hc0, ⟨32, 0, 39, 24⟩) := by kernel_rfl
set_option maxHeartbeats 0 in
theorem piece9 (w : World) (os : OsState) : twSeg twTab pw w 11 (some (.ref 6)) 1 462 (S7 w os) ⟨(twExecs b9 hEnv).wrap doneF deadEnd id id, hc0, ⟨32, 0, 39, 24⟩, hB⟩ = some (.next, S9 w os, hc0, ⟨48, 0, 57, 23⟩) := by kernel_rfl
set_option maxHeartbeats 0 in
theorem piece16 (w : World) (os : OsState) : twSeg twTab pw w 11 (some (.ref 6)) 1 397 (S9 w os) ⟨(twExecs b16 hEnv).wrap doneF deadEnd id id, hc0, ⟨48, 0, 57, 23⟩, hB⟩ = some (.next, S16 w os, hc0, ⟨96, 0, 104, 15⟩) := by kernel_rfl
set_option maxHeartbeats 0 in
theorem piece27 (w : World) (os : OsState) : twSeg twTab pw w 11 (some (.ref 6)) 1 309 (S16 w os) ⟨(twExecs b27 hEnv).wrap doneF deadEnd id id, hc0, ⟨96, 0, 104, 15⟩, hB⟩ = some (.next, S27 w os, hc0, ⟨261, 0, 280, 138⟩) := by kernel_rfl
noncomputable abbrev SB (w : World) (os : OsState) : Shared := ⟨boot_heap w.params, Array.mk [], boot_drawn, boot_toks, os⟩
noncomputable def HA (P : Params) : Heap := ⟨⟨[(boot_o_0 P), (boot_o_1 P), (boot_o_2 P), (boot_o_3 P), (boot_o_4 P), (boot_o_5 P), (boot_o_6 P), (boot_o_7 P), (boot_o_8 P), (boot_o_9 P), (boot_o_10 P), kT0, kN0, o13, o14]⟩, hLife⟩
noncomputable abbrev SA (w : World) (os : OsState) : Shared := ⟨HA w.params, #[], ⟨0, 0, 0, 0⟩, 187, os⟩
noncomputable abbrev SZ (w : World) (os : OsState) : Shared := ⟨HF w.params, #[], ⟨0, 0, 0, 0⟩, 608, os⟩
theorem pre_run (w : World) (os : OsState) : topGo treeTable pw w 11 (some (.ref 6)) 12 (SB w os) (topStub pw) = some (SA w os, ⟨denote treeTable hc0, hc0, ⟨0, 0, 0, 0⟩, hB⟩) := by kernel_rfl
theorem block_run (w : World) (os : OsState) : segRun treeTable pw w 11 (some (.ref 6)) 1 1 (SA w os) (blockOf hb hEnv hc0 ⟨0, 0, 0, 0⟩ hB) = some (.next, (S0 w os).abs, hc0, ⟨0, 0, 0, 0⟩) := by kernel_rfl
theorem fin_run (w : World) (os : OsState) : topRun treeTable pw w 11 (some (.ref 6)) 2 (S27 w os).abs (restOf [] hEnv hc0 ⟨261, 0, 280, 138⟩ hB) = some (SZ w os) := by kernel_rfl
theorem run_all (w : World) (os : OsState) : topRun treeTable pw w 11 (some (.ref 6)) (12 + (1 + (261 + (483 + (454 + (462 + (397 + (309 + 2)))))))) (SB w os) (topStub pw) = some (SZ w os) :=
  go_top (pre_run w os) (piece_block (block_run w os) (piece_app (segRun_of (quick (piece3 w os))) (piece_app (segRun_of (quick (piece5 w os))) (piece_app (segRun_of (quick (piece7 w os))) (piece_app (segRun_of (quick (piece9 w os))) (piece_app (segRun_of (quick (piece16 w os))) (piece_app (segRun_of (quick (piece27 w os))) (fin_run w os))))))))
theorem size0 (w : World) : ((boot_heap w.params).isNs mainGlobals && (Array.mk [] : Array GenState).size == 0, (boot_heap w.params).objs.size, (boot_heap w.params).nsMap mainGlobals "__annotations__") = (true, 11, some (.ref 6)) := by kernel_rfl
theorem open0 : ∀ w : World, (fencedOpening treeTable pw w 4846).map (fun s => (s.heap, s.gens, s.drawn, s.toks)) = some (boot_heap w.params, Array.mk [], boot_drawn, boot_toks) :=
  boot_open (by kernel_rfl) (by kernel_rfl) (fun _ => by kernel_rfl)
noncomputable def vw : Program := { pw with main := { pw.main with body := [s0, s2, s3, s4, s5, s6, s7, s8, s9, s11, s12, s13, s14, s15, s16, s17, s18, s19, s21, s22, s23, s24, s25, s26] } }
noncomputable def hk : Hook := kHook K as asEq
noncomputable abbrev hX (s : Shared) : Bool := xlAt vw [] s && recOk (RowW.records lw.row.toRowW) s
set_option maxHeartbeats 0 in
theorem look1 (w : World) (os : OsState) : (staticsOk (importedModules pw.main.body) (boot_heap w.params) (HF w.params) && namesBound pw (HF w.params) && gensDone (SZ w os) && laidKept (boot_heap w.params) (HF w.params)) = true := by kernel_rfl
noncomputable abbrev lkX (w : World) (os : OsState) := Fast.tw4187177175401517315 vw [] (importedModules pw.main.body) hX true (SZ w os)
noncomputable abbrev lkY := openGood vw []
set_option maxHeartbeats 0 in
theorem lk0 (w : World) (os : OsState) : (lkX w os).1 = expectedOf vw := by kernel_rfl
set_option maxHeartbeats 0 in
theorem lk1 (w : World) (os : OsState) : (lkX w os).2.1 = bltViewBooted := by kernel_rfl
set_option maxHeartbeats 0 in
theorem lk2 (w : World) (os : OsState) : (lkX w os).2.2.1 = true := by kernel_rfl
set_option maxHeartbeats 0 in
theorem lk3 (w : World) (os : OsState) : (lkX w os).2.2.2.1 = true := by kernel_rfl
set_option maxHeartbeats 0 in
theorem lk4 (w : World) (os : OsState) : (lkX w os).2.2.2.2.1 = pinGoodD (drecsOf vw) := by kernel_rfl
set_option maxHeartbeats 0 in
theorem lk5 (w : World) (os : OsState) : (lkX w os).2.2.2.2.2.1 = plainGoodE vw (looseW vw []) := by kernel_rfl
set_option maxHeartbeats 0 in
theorem lk6 (w : World) (os : OsState) : (lkX w os).2.2.2.2.2.2.1 = plainGoodD vw [] := by kernel_rfl
set_option maxHeartbeats 0 in
theorem lk7 (w : World) (os : OsState) : (lkX w os).2.2.2.2.2.2.2.1 = wideGood vw := by kernel_rfl
set_option maxHeartbeats 0 in
theorem lk8 (w : World) (os : OsState) : (lkX w os).2.2.2.2.2.2.2.2 = clsGoodW vw [] := by kernel_rfl
theorem look2 (w : World) (os : OsState) : lkX w os = lkY := Prod.ext (lk0 w os) (Prod.ext (lk1 w os) (Prod.ext (lk2 w os) (Prod.ext (lk3 w os) (Prod.ext (lk4 w os) (Prod.ext (lk5 w os) (Prod.ext (lk6 w os) (Prod.ext (lk7 w os) (lk8 w os))))))))
set_option maxHeartbeats 0 in
theorem look3 (w : World) (os : OsState) : Hook.obs hk (SZ w os) = Hook.val hk w := by kernel_rfl
theorem looks (w : World) : (fun os => ((staticsOk (importedModules pw.main.body) (boot_heap w.params) (HF w.params) && namesBound pw (HF w.params) && gensDone (SZ w os) && laidKept (boot_heap w.params) (HF w.params)),
        openSeen vw [] (importedModules pw.main.body) hX true (SZ w os), Hook.obs hk (SZ w os))) = fun _ => (true, openGood vw [], Hook.val hk w) :=
  funext fun os => looks_pair (look1 w os) (looks_pair (by rw [Fast.te4187177175401517315]; exact look2 w os) (look3 w os))
theorem head : LeftO pw vw [] hX (Hook.obs hk) (Hook.val hk) 4846 := LeftO.of_pieces open0 size0 run_all (by kernel_rfl) looks
noncomputable abbrev qr : Program := (Fast.tw2368527892694137696 lw).prog
set_option maxHeartbeats 0 in
theorem rd1 : Fast.tw13343964577679436407 qr qr.main.body ⟨⟨[118, 97, 114, 115]⟩⟩ = false := by decide +kernel
set_option maxHeartbeats 0 in
theorem rd2 : Fast.tw13343964577679436407 qr qr.main.body ⟨⟨[100, 105, 114]⟩⟩ = false := by decide +kernel
set_option maxHeartbeats 0 in
theorem rd3 : Fast.tw13343964577679436407 qr qr.main.body ⟨⟨[108, 111, 99, 97, 108, 115]⟩⟩ = false := by decide +kernel
theorem rd0 : R.filterR (Fast.tw13343964577679436407 qr qr.main.body) [⟨⟨[118, 97, 114, 115]⟩⟩, ⟨⟨[100, 105, 114]⟩⟩, ⟨⟨[108, 111, 99, 97, 108, 115]⟩⟩] = [] := by
  rw [← R.filterR_eq, List.filter_cons_of_neg (Bool.not_eq_true _ ▸ rd1), List.filter_cons_of_neg (Bool.not_eq_true _ ▸ rd2), List.filter_cons_of_neg (Bool.not_eq_true _ ▸ rd3), List.filter_nil]
set_option maxHeartbeats 0 in
theorem rd4 : Fast.tw8326940854005059898 { strict := !R.allR (Fast.tw5923862056798008813 qr.main.body) (Fast.tw3471404346716756564 Fast.tw17691160309236699985), foot := none, bare := [] } qr.main.body = true := by decide +kernel
theorem rd5 : Fast.tw8326940854005059898 { strict := !R.allR (Fast.tw5923862056798008813 qr.main.body) (Fast.tw3471404346716756564 Fast.tw17691160309236699985), foot := none, bare := R.filterR (Fast.tw13343964577679436407 qr qr.main.body) [⟨⟨[118, 97, 114, 115]⟩⟩, ⟨⟨[100, 105, 114]⟩⟩, ⟨⟨[108, 111, 99, 97, 108, 115]⟩⟩] } qr.main.body = true := by
  rw [rd0]
  exact rd4
set_option maxHeartbeats 0 in
theorem said : lw.wellSaid = true := by
  rw [Fast.te9446332074065402090]
  delta Fast.tw9446332074065402090
  repeat' (first
    | with_reducible refine look_both ?_ ?_
    | (delta Fast.tw17960256430627541270; with_reducible refine look_both ?_ ?_)
    | (delta Fast.tw2436336058641802641; with_reducible refine look_both ?_ ?_)
    | (delta Fast.tw12908688711261696721; with_reducible refine look_both ?_ ?_))
  rotate_left 4
  exact rd5
  all_goals decide +kernel
theorem ws_app (top : Scope) (cx : TablesWhole.Ctx) (sc : Scope) (b : List Stmt) : ∀ a : List Stmt, TablesWhole.wSs TablesWhole.holds top cx sc (a ++ b) = (TablesWhole.wSs TablesWhole.holds top cx sc a && TablesWhole.wSs TablesWhole.holds top cx sc b)
  | [] => rfl
  | s :: a => by
    show (TablesWhole.wS TablesWhole.holds top cx sc s && TablesWhole.wSs TablesWhole.holds top cx sc (a ++ b)) = (((TablesWhole.wS TablesWhole.holds top cx sc s && TablesWhole.wSs TablesWhole.holds top cx sc a)) && TablesWhole.wSs TablesWhole.holds top cx sc b)
    rw [ws_app top cx sc b a, Bool.and_assoc]
noncomputable abbrev mSc : Scope := pw.main.scope
noncomputable abbrev mCx : TablesWhole.Ctx := ⟨mSc, [], [], [], none⟩
set_option maxHeartbeats 0 in
theorem told0 : Fast.tw16421684217811934046 TablesWhole.gather mSc mCx mSc pw.main.body = [] := by decide +kernel
set_option maxHeartbeats 0 in
theorem ws1 : Fast.tw16421684217811934046 TablesWhole.holds mSc mCx mSc [s0, s1, s2, s3, s4, s5, s6, s7, s8, s9, s10, s11, s12, s13, s14, s15, s16, s17, s18, s19, s20, s21, s22] = true := by decide +kernel
set_option maxHeartbeats 0 in
theorem ws2 : Fast.tw16421684217811934046 TablesWhole.holds mSc mCx mSc [s23, s24] = true := by decide +kernel
set_option maxHeartbeats 0 in
theorem ws3 : Fast.tw16421684217811934046 TablesWhole.holds mSc mCx mSc [s25, s26] = true := by decide +kernel
set_option maxHeartbeats 0 in
theorem ws0 : Fast.tw8331962902438777018 mSc = true := by decide +kernel
theorem ws_all : TablesWhole.wSs TablesWhole.holds mSc mCx mSc ([s0, s1, s2, s3, s4, s5, s6, s7, s8, s9, s10, s11, s12, s13, s14, s15, s16, s17, s18, s19, s20, s21, s22] ++ ([s23, s24] ++ [s25, s26])) = true := by
  rw [ws_app, ws_app, Fast.te16421684217811934046, ws1, ws2, ws3]
  rfl
theorem whole0 : pw.tablesWhole = true := by
  show TablesWhole.holds.all [TablesWhole.holds.all [true, TablesWhole.noTwice mSc, TablesWhole.wSs TablesWhole.holds mSc ⟨mSc, [], TablesWhole.wSs TablesWhole.gather mSc mCx mSc pw.main.body, [], none⟩ mSc ([s0, s1, s2, s3, s4, s5, s6, s7, s8, s9, s10, s11, s12, s13, s14, s15, s16, s17, s18, s19, s20, s21, s22] ++ ([s23, s24] ++ [s25, s26]))], true, true, true] = true
  rw [show TablesWhole.wSs TablesWhole.gather mSc mCx mSc pw.main.body = [] by rw [Fast.te16421684217811934046]; exact told0, ws_all, Fast.te8331962902438777018, ws0]
  rfl
end Mine
namespace Mine

/-- what the ledger says of an address -/
inductive AO where
  | inst (C : Addr) (fs : List (Str × Value))
  | part (a : Addr)
  | lst (vs : List Value)
  | tup (vs : List Value)
  | dct (fs : List (Str × Value)) (ep : Nat)
  | cell (v : Option Value)
  | ns (fs : List (Str × Value))
  | itl (l : Addr) (i : Nat)
  | itr (x n : Int)
  | itd (d : Addr) (i n ep : Nat)
  | rng (n : Int)

noncomputable def AO.free : AO → Bool
  | .part _ => false
  | _ => true
noncomputable def AO.one : AO → Bool
  | .inst _ _ => false
  | _ => true
noncomputable abbrev AH := Addr → Option AO
noncomputable abbrev Loc := List (Str × Value)
noncomputable def AH.put (H : AH) (a : Addr) (o : AO) : AH := fun b => if b = a then some o else H b
noncomputable def AH.del (H : AH) (a : Addr) : AH := fun b => if b = a then none else H b
theorem put_self {H : AH} {a : Addr} {o : AO} : H.put a o a = some o := if_pos rfl
theorem put_ne {H : AH} {a b : Addr} {o : AO} (h : b ≠ a) : H.put a o b = H b := if_neg h
theorem del_ne {H : AH} {a b : Addr} (h : b ≠ a) : H.del a b = H b := if_neg h

/-- entries of a dict with keys that are texts -/
inductive Ents (P : Params) : List DictEntry → List (Str × Value) → Prop
  | nil : Ents P [] []
  | cons {x : Str} {t : Tok} {v : Value} {es fs} : Ents P es fs → Ents P (⟨PyData.keyHash P x, .str x t, v⟩ :: es) ((x, v) :: fs)

noncomputable abbrev tupOf (vs : List Value) (n : Nat) : Obj := { cls := .type "tuple", data := .seq vs.toArray n }

/-- the one object of all but instances -/
noncomputable def Shape (P : Params) : AO → Obj → Prop
  | .inst _ _, _ => False
  | .part _, _ => True
  | .lst vs, ob => ∃ n, ob = W.listOf vs.toArray n
  | .tup vs, ob => ∃ n, ob = tupOf vs n
  | .dct fs ep, ob => ∃ es, ob = dictOf es ep ∧ Ents P es fs
  | .cell v, ob => ob.data = .cell v
  | .ns fs, ob => ∃ es ep, ob.data = .dict es ep ∧ StrKeys es ∧ ∀ y, nsFind es y = fs.lookup y
  | .itl l i, ob => ob.cls = .type "list_iterator" ∧ ob.data = .fields #[.ref l, .int i 0]
  | .itr x n, ob => ob = { cls := .type "range_iterator", dict := none, data := .fields #[rawInt x, rawInt n, rawInt 1], slots := #[] }
  | .itd d i n ep, ob => ob.cls = .type "dict_keyiterator" ∧ ob.data = .fields #[.ref d, .int i 0, .int n 0, .int ep 0]
  | .rng n, ob => ∃ t u v, ob = { cls := .type "range", dict := none, data := .fields #[.int 0 t, .int n u, .int 1 v], slots := #[] }

noncomputable def Real (P : Params) (news : List (Addr × Obj)) (H : AH) (a : Addr) (o : AO) : Prop :=
  (∃ ob, (a, ob) ∈ news ∧ Shape P o ob) ∨ ∃ C fs dx es n, o = .inst C fs ∧ (a, instObj C dx) ∈ news ∧ (dx, dictOf es n) ∈ news ∧ Ents P es fs ∧ H dx = some (.part a)

noncomputable def Led (P : Params) (news : List (Addr × Obj)) (H : AH) : Prop := ∀ a o, H a = some o → Real P news H a o

theorem Real.at_ {P news H a o} (h : Real P news H a o) : ∃ ob, (a, ob) ∈ news := by
  rcases h with ⟨ob, h, _⟩ | ⟨_, _, _, _, _, _, h, _⟩ <;> exact ⟨_, h⟩
theorem Real.shape {P news H a o} (h : Real P news H a o) (hn : o.one = true) : ∃ ob, (a, ob) ∈ news ∧ Shape P o ob := by
  rcases h with h | ⟨C, fs, _, _, _, e, _⟩
  · exact h
  · subst e; cases hn
theorem Real.inst {P news H a C fs} (h : Real P news H a (.inst C fs)) : ∃ dx es n, (a, instObj C dx) ∈ news ∧ (dx, dictOf es n) ∈ news ∧ Ents P es fs ∧ H dx = some (.part a) := by
  rcases h with ⟨_, _, h⟩ | ⟨C, fs, dx, es, n, e, h⟩
  · exact h.elim
  · cases e; exact ⟨dx, es, n, h⟩

theorem Real.mono {P news news' H H' a o} (h : Real P news H a o) (hn : ∀ p ∈ news, p ∈ news') (hH : ∀ b, H b = some (.part a) → H' b = some (.part a)) : Real P news' H' a o := by
  rcases h with ⟨ob, h, h'⟩ | ⟨C, fs, dx, es, n, e, h1, h2, h3, h4⟩
  · exact .inl ⟨ob, hn _ h, h'⟩
  · exact .inr ⟨C, fs, dx, es, n, e, hn _ h1, hn _ h2, h3, hH _ h4⟩

/-- a new object -/
theorem Led.push {P news H a ob o} (h : Led P news H) (ha : H a = none) (hr : Shape P o ob) : Led P ((a, ob) :: news) (H.put a o) := by
  intro b o' hb
  by_cases e : b = a
  · subst e; rw [put_self] at hb; cases hb
    exact .inl ⟨_, .head _, hr⟩
  · rw [put_ne e] at hb
    refine (h b o' hb).mono (fun p hp => .tail _ hp) fun d hd => ?_
    rw [put_ne]; exact hd
    rintro rfl; rw [ha] at hd; cases hd

theorem Led.fresh {P news H} (h : Led P news H) {a : Addr} (hl : ∀ p ∈ news, p.1 < a) : H a = none := by
  cases e : H a with
  | none => rfl
  | some o =>
    obtain ⟨ob, hm⟩ := (h a o e).at_
    exact absurd (hl _ hm) (Nat.lt_irrefl _)

/-- an object turned -/
noncomputable def without (news : List (Addr × Obj)) (d : Addr) : List (Addr × Obj) := news.filter fun p => p.1 ≠ d
theorem mem_without {news : List (Addr × Obj)} {d : Addr} {p : Addr × Obj} : p ∈ without news d ↔ p ∈ news ∧ p.1 ≠ d := by
  simp [without]
theorem Real.apart {P : Params} {news news' : List (Addr × Obj)} {H H' : AH} {b d : Addr} {q : AO} (R : Real P news H b q) (e : b ≠ d) (keep : ∀ c x, (c, x) ∈ news → c ≠ d → (c, x) ∈ news') (hx : ∀ dx, H dx = some (.part b) → dx ≠ d) (hH : ∀ dx, H dx = some (.part b) → H' dx = some (.part b)) : Real P news' H' b q := by
  rcases R with ⟨ob, h, h'⟩ | ⟨C, fs, dx, es, n, e', h1, h2, h3, h4⟩
  · exact .inl ⟨ob, keep _ _ h e, h'⟩
  · exact .inr ⟨C, fs, dx, es, n, e', keep _ _ h1 e, keep _ _ h2 (hx _ h4), h3, hH _ h4⟩

theorem Led.turn {P : Params} {news : List (Addr × Obj)} {H : AH} {d : Addr} {ob : Obj} {o o' : AO} (h : Led P news H) (hd : H d = some o) (hp : o.free = true) (hr : Shape P o' ob) :
    Led P ((d, ob) :: without news d) (H.put d o') := by
  intro b q hb
  by_cases e : b = d
  · subst e; rw [put_self] at hb; cases hb
    exact .inl ⟨_, .head _, hr⟩
  · rw [put_ne e] at hb
    have ne : ∀ dx, H dx = some (.part b) → dx ≠ d := fun dx hx => by rintro rfl; rw [hd] at hx; cases hx; cases hp
    exact (h b q hb).apart e (fun c x hm hc => .tail _ (mem_without.mpr ⟨hm, hc⟩)) ne fun dx hx => by rw [put_ne (ne dx hx)]; exact hx
/-- an object let go -/
theorem Led.drop {P : Params} {news news' : List (Addr × Obj)} {H : AH} {d : Addr} {o : AO} (h : Led P news H) (hd : H d = some o) (hp : o.free = true) (hn : ∀ c x, (c, x) ∈ news → c ≠ d → (c, x) ∈ news') : Led P news' (H.del d) := by
  intro b q hb
  by_cases e : b = d
  · subst e; unfold AH.del at hb; rw [if_pos rfl] at hb; cases hb
  · rw [del_ne e] at hb
    have ne : ∀ dx, H dx = some (.part b) → dx ≠ d := fun dx hx => by rintro rfl; rw [hd] at hx; cases hx; cases hp
    exact (h b q hb).apart e hn ne fun dx hx => by rw [del_ne (ne dx hx)]; exact hx

/-- a field turned: the object's own dict turns -/
theorem Led.field {P : Params} {news : List (Addr × Obj)} {H : AH} {a dx : Addr} {C : Addr} {fs fs' : List (Str × Value)} {es' : List DictEntry} {n' : Nat} (h : Led P news H) (ha : H a = some (.inst C fs)) (h1 : (a, instObj C dx) ∈ news) (hx : H dx = some (.part a)) (he : Ents P es' fs') :
    Led P ((dx, dictOf es' n') :: without news dx) (H.put a (.inst C fs')) := by
  have hne : a ≠ dx := by rintro rfl; rw [ha] at hx; cases hx
  have keep : ∀ c x, (c, x) ∈ news → c ≠ dx → (c, x) ∈ (dx, dictOf es' n') :: without news dx := fun c x hm hc => .tail _ (mem_without.mpr ⟨hm, hc⟩)
  intro b q hb
  by_cases e : b = a
  · subst e; rw [put_self] at hb; cases hb
    exact .inr ⟨C, fs', dx, es', n', rfl, keep _ _ h1 hne, .head _, he, by rw [put_ne (Ne.symm hne)]; exact hx⟩
  · rw [put_ne e] at hb
    by_cases eb : b = dx
    · subst eb
      rw [hx] at hb; cases hb
      exact .inl ⟨_, .head _, trivial⟩
    · refine (h b q hb).apart eb keep (fun d hd => ?_) fun d hd => ?_
      · rintro rfl; rw [hx] at hd; cases hd; exact e rfl
      · rw [put_ne]; exact hd
        rintro rfl; rw [ha] at hd; cases hd

/-- the frame at hand -/
structure Cx (K : Params → Frag) where
  prog : Program
  w : World
  A₀ : Around
  A : Around
  base : Heap
  h₀ : Heap
  outer : List Env
  fenv : Env
  env : Env
  L : Addr
  p : Program
  loose : List Str
  mg : Str → Option Value
  mb : Str → Option Value
  s₀ : Shared
  below : Below A₀ base outer h₀
  frames : A.frames = some (fenv :: outer)
  frame : fenv.frame = some L
  kind : fenv.scope.kind = .function
  kin : (K w.params).In h₀
  top : TopRead p loose mg mb h₀
  hand : A.handled = none
  mods : ∃ o, h₀.get? sysModules = some o

variable {K : Params → Frag}

/-- the plain names of a frame -/
noncomputable def nm (m : Loc) : Str → Option Value := fun y => m.lookup y
structure Inv (c : Cx K) (m : Loc) (H : AH) (s : Shared) : Prop where
  ex : ∃ news, Fr c.h₀ c.L s.heap (nm m) ∧ News c.h₀ c.L s.heap news ∧ Led c.w.params news H
  rest : s.gens = c.s₀.gens ∧ s.drawn = c.s₀.drawn ∧ s.os = c.s₀.os
noncomputable def PQ {α : Type} (c : Cx K) (m : Loc) (Q : α → AH → Prop) (v : α) (s : Shared) : Prop := ∃ H', Inv c m H' s ∧ Q v H'
noncomputable def PS {α : Type} (c : Cx K) (Q : α → Loc → AH → Prop) (v : α) (s : Shared) : Prop := ∃ m' H', Inv c m' H' s ∧ Q v m' H'
noncomputable def EF (_ : Value) (_ : Shared) : Prop := False

/-- an expression's tree -/
noncomputable def WE {α : Type} (c : Cx K) (t : Sem α) (m : Loc) (H : AH) (Q : α → AH → Prop) : Prop :=
  ∀ s, Inv c m H s → wpAny (model c.prog c.w) c.A t (PQ c m Q) EF s
/-- a statement's tree -/
noncomputable def WS {α : Type} (c : Cx K) (t : Sem α) (m : Loc) (H : AH) (Q : α → Loc → AH → Prop) : Prop :=
  ∀ s, Inv c m H s → wpAny (model c.prog c.w) c.A t (PS c Q) EF s

section
variable {α β : Type} {c : Cx K} {m m' : Loc} {H H' : AH} {s s' : Shared}
theorem pq {Q : α → AH → Prop} {v : α} (I : Inv c m H s) (q : Q v H) : PQ c m Q v s := ⟨H, I, q⟩
theorem ps {Q : α → Loc → AH → Prop} {v : α} (I : Inv c m H s) (q : Q v m H) : PS c Q v s := ⟨m, H, I, q⟩
theorem Inv.toks (I : Inv c m H s) (n : Nat) : Inv c m H { s with toks := n } := ⟨I.ex, I.rest⟩
theorem Inv.heap {h' : Heap} {n : Nat} {news : List (Addr × Obj)} (I : Inv c m H s) (F : Fr c.h₀ c.L h' (nm m')) (N : News c.h₀ c.L h' news) (L : Led c.w.params news H') : Inv c m' H' { s with heap := h', toks := n } :=
  ⟨⟨news, F, N, L⟩, I.rest⟩
theorem WE.mono {t : Sem α} {Q Q' : α → AH → Prop} (h : WE c t m H Q) (hq : ∀ v H', Q v H' → Q' v H') : WE c t m H Q' :=
  fun s I => wpAny_mono (h s I) (fun _ _ h => let ⟨_, I', q⟩ := h; pq I' (hq _ _ q)) fun _ _ e => e
theorem WS.mono {t : Sem α} {Q Q' : α → Loc → AH → Prop} (h : WS c t m H Q) (hq : ∀ v m' H', Q v m' H' → Q' v m' H') : WS c t m H Q' :=
  fun s I => wpAny_mono (h s I) (fun _ _ h => let ⟨_, _, I', q⟩ := h; ps I' (hq _ _ _ q)) fun _ _ e => e
/-- first this tree, then what stands behind it -/
theorem WE.seq {t : Sem α} {Q : α → AH → Prop} {R : α → Shared → Prop} (h : WE c t m H Q) (I : Inv c m H s) (k : ∀ a H' s', Inv c m H' s' → Q a H' → R a s') : wpAny (model c.prog c.w) c.A t R EF s :=
  wpAny_mono (h s I) (fun a s' h => let ⟨H', I', q⟩ := h; k a H' s' I' q) fun _ _ e => e
theorem WS.seq {t : Sem α} {Q : α → Loc → AH → Prop} {R : α → Shared → Prop} (h : WS c t m H Q) (I : Inv c m H s) (k : ∀ a m' H' s', Inv c m' H' s' → Q a m' H' → R a s') : wpAny (model c.prog c.w) c.A t R EF s :=
  wpAny_mono (h s I) (fun a s' h => let ⟨m', H', I', q⟩ := h; k a m' H' s' I' q) fun _ _ e => e
theorem WE.seqN {t : Sem α} {Q : α → AH → Prop} {R : α → Shared → Prop} {env : Env} {E : Value → Shared → Prop} (h : WE c t m H Q) (I : Inv c m H s) (k : ∀ a H' s', Inv c m H' s' → Q a H' → R a s') : wpAny (model c.prog c.w) c.A t R (notedBy (model c.prog c.w) c.A env E) s :=
  wpAny_mono (h s I) (fun a s' h => let ⟨H', I', q⟩ := h; k a H' s' I' q) fun _ _ e => e.elim
theorem WS.seqN {t : Sem α} {Q : α → Loc → AH → Prop} {R : α → Shared → Prop} {E : Value → Shared → Prop} (h : WS c t m H Q) (I : Inv c m H s) (k : ∀ a m' H' s', Inv c m' H' s' → Q a m' H' → R a s') : wpAny (model c.prog c.w) c.A t R E s :=
  wpAny_mono (h s I) (fun a s' h => let ⟨m', H', I', q⟩ := h; k a m' H' s' I' q) fun _ _ e => e.elim
theorem WE.toS {t : Sem α} {Q : α → Loc → AH → Prop} (h : WE c t m H (fun v H' => Q v m H')) : WS c t m H Q :=
  fun s I => h.seq I fun _ _ _ I' q => ps I' q
theorem we_pure {a : α} {Q : α → AH → Prop} (h : Q a H) : WE c (pure a) m H Q := fun s I => wpAny_pure (pq I h)
theorem we_bind {t : Sem α} {f : α → Sem β} {Q : β → AH → Prop} (h : WE c t m H (fun a H' => WE c (f a) m H' Q)) : WE c (t >>= f) m H Q :=
  fun s I => wpAny_bind (h.seq I fun _ _ s' I' q => q s' I')

/-- a rule opens the room it stands in -/
theorem WE.of {t : Sem α} {Q : α → AH → Prop} (h : ∀ s news, Inv c m H s → Fr c.h₀ c.L s.heap (nm m) → News c.h₀ c.L s.heap news → Led c.w.params news H → wpAny (model c.prog c.w) c.A t (PQ c m Q) EF s) : WE c t m H Q :=
  fun s I => I.ex.elim fun news x => h s news I x.1 x.2.1 x.2.2
/-- a new object at the end of a rule -/
theorem Inv.madeAs {Q : Value → AH → Prop} {news : List (Addr × Obj)} {h' : Heap} {a : Addr} {ob : Obj} {o : AO} {n : Nat} (I : Inv c m H s) (L : Led c.w.params news H) (F : Fr c.h₀ c.L h' (nm m)) (N : News c.h₀ c.L h' ((a, ob) :: news)) (fr : H a = none) (sh : Shape c.w.params o ob)
    (h : Q (.ref a) (H.put a o)) : PQ c m Q (.ref a) { s with heap := h', toks := n } := pq (I.heap F N (L.push fr sh)) h
theorem Inv.made {Q : Value → AH → Prop} {news : List (Addr × Obj)} {h' : Heap} {a : Addr} {ob : Obj} {o : AO} {n : Nat} (I : Inv c m H s) (L : Led c.w.params news H) (F : Fr c.h₀ c.L h' (nm m)) (N : News c.h₀ c.L h' ((a, ob) :: news)) (l1 : ∀ p ∈ news, p.1 < a) (sh : Shape c.w.params o ob)
    (h : ∀ a, H a = none → Q (.ref a) (H.put a o)) : PQ c m Q (.ref a) { s with heap := h', toks := n } := I.madeAs L F N (L.fresh l1) sh (h _ (L.fresh l1))
theorem below_size {h₀ h : Heap} {L : Addr} {news : List (Addr × Obj)} (N : News h₀ L h news) : ∀ p ∈ news, p.1 < h.objs.size := fun p hp => Heap.lt_size (N p hp).1
/-- an object pushed onto the heap -/
theorem Inv.pushed {Q : Value → AH → Prop} {news : List (Addr × Obj)} {ob : Obj} {o : AO} {n : Nat} (I : Inv c m H s) (F : Fr c.h₀ c.L s.heap (nm m)) (N : News c.h₀ c.L s.heap news) (L : Led c.w.params news H) (hf : ob.isFreed = false) (sh : Shape c.w.params o ob)
    (h : ∀ a, H a = none → Q (.ref a) (H.put a o)) : PQ c m Q (.ref s.heap.objs.size) { s with heap := s.heap.push ob, toks := n } := I.made L (F.push _) (N.push F _ hf) (below_size N) sh h
/-- an object turned at the end of a rule -/
theorem turnAt {h₀ h h' : Heap} {L d : Addr} {news : List (Addr × Obj)} {o ob : Obj} {mf : Str → Option Value} (F : Fr h₀ L h mf) (N : News h₀ L h news) (hm : (d, o) ∈ news) (hs : Heap.SameBut d h h') (hd : h'.get? d = some ob) :
    Fr h₀ L h' mf ∧ News h₀ L h' ((d, ob) :: without news d) := by
  have D := N _ hm
  refine ⟨F.change hs D.2.1 D.2.2, fun p hp => ?_⟩
  rcases List.mem_cons.mp hp with rfl | hp
  · exact ⟨hd, D.2⟩
  · obtain ⟨hp, hne⟩ := mem_without.mp hp
    exact ⟨(hs.2 _ hne).trans (N _ hp).1, (N _ hp).2⟩
theorem Inv.turnedI {news : List (Addr × Obj)} {h' : Heap} {d : Addr} {ob ob' : Obj} {o o' : AO} {n : Nat} (I : Inv c m H s) (F : Fr c.h₀ c.L s.heap (nm m)) (N : News c.h₀ c.L s.heap news) (L : Led c.w.params news H) (hd : H d = some o) (m1 : (d, ob) ∈ news) (hp : o.free = true)
    (hs : Heap.SameBut d s.heap h') (hg : h'.get? d = some ob') (sh : Shape c.w.params o' ob') : Inv c m (H.put d o') { s with heap := h', toks := n } :=
  have t := turnAt F N m1 hs hg
  I.heap t.1 t.2 (L.turn hd hp sh)
theorem Inv.turned {Q : α → AH → Prop} {v : α} {news : List (Addr × Obj)} {h' : Heap} {d : Addr} {ob ob' : Obj} {o o' : AO} {n : Nat} (I : Inv c m H s) (F : Fr c.h₀ c.L s.heap (nm m)) (N : News c.h₀ c.L s.heap news) (L : Led c.w.params news H) (hd : H d = some o) (m1 : (d, ob) ∈ news) (hp : o.free = true)
    (hs : Heap.SameBut d s.heap h') (hg : h'.get? d = some ob') (sh : Shape c.w.params o' ob') (h : Q v (H.put d o')) : PQ c m Q v { s with heap := h', toks := n } := pq (I.turnedI F N L hd m1 hp hs hg sh) h
theorem shLst {P : Params} {vs : List Value} {n : Nat} : Shape P (.lst vs) (W.listOf vs.toArray n) := ⟨_, rfl⟩
theorem shTup {P : Params} {vs : List Value} {n : Nat} : Shape P (.tup vs) (tupOf vs n) := ⟨_, rfl⟩
/-- what a rule that leaves all but d alone leaves of the ledger -/
theorem dropAt {h₀ h h' : Heap} {L d : Addr} {news : List (Addr × Obj)} {o : Obj} {mf : Str → Option Value} (F : Fr h₀ L h mf) (N : News h₀ L h news) (hm : (d, o) ∈ news) (hs : Heap.ExtBut d h h') :
    Fr h₀ L h' mf ∧ News h₀ L h' (without news d) := by
  have D := N _ hm
  refine ⟨⟨F.ns.at' fun o e => hs _ _ (Ne.symm D.2.1) e, fun b x e => hs _ _ (fun q => ?_) (F.keep b x e), F.above⟩, fun p hp => ?_⟩
  · rw [q, D.2.2] at e; cases e
  · obtain ⟨hp, hne⟩ := mem_without.mp hp
    exact ⟨hs _ _ hne (N _ hp).1, (N _ hp).2⟩
theorem Inv.dropped {news : List (Addr × Obj)} {h' : Heap} {d : Addr} {ob : Obj} {o : AO} {n : Nat} (I : Inv c m H s) (F : Fr c.h₀ c.L s.heap (nm m)) (N : News c.h₀ c.L s.heap news) (L : Led c.w.params news H) (hd : H d = some o) (m1 : (d, ob) ∈ news) (hp : o.free = true)
    (hs : Heap.ExtBut d s.heap h') : Inv c m (H.del d) { s with heap := h', toks := n } :=
  have t := dropAt F N m1 hs
  I.heap t.1 t.2 (L.drop hd hp fun _ _ hm hc => mem_without.mpr ⟨hm, hc⟩)
theorem big {n : Nat} (h : n ≤ 16000000) : n ≤ sizeLine := by rw [sizeLine_eq]; omega
/-- a list at hand -/
theorem WE.lst {t : Sem α} {Q : α → AH → Prop} {l : Addr} {vs : List Value} (hl : H l = some (.lst vs)) (h : ∀ s news n, Inv c m H s → Fr c.h₀ c.L s.heap (nm m) → News c.h₀ c.L s.heap news → Led c.w.params news H → (l, W.listOf vs.toArray n) ∈ news → s.heap.IsList l vs.toArray → wpAny (model c.prog c.w) c.A t (PQ c m Q) EF s) : WE c t m H Q :=
  WE.of fun s news I F N L => by
    obtain ⟨o1, m1, n1, rfl⟩ := (L _ _ hl).shape rfl
    exact h s news n1 I F N L m1 ⟨_, N.get m1, rfl, _, rfl⟩
end
end Mine
namespace Mine
variable {K : Params → Frag} {c : Cx K} {m : Loc} {H : AH}

/-! ## statements -/
theorem ws_nil {env : Env} {Q : Flow → Loc → AH → Prop} (h : Q .next m H) : WS c (execs [] env) m H Q := fun _ I => wpAny_execs_nil (ps I h)
noncomputable def After (c : Cx K) (rest : List Stmt) (Q : Flow → Loc → AH → Prop) : Flow → Loc → AH → Prop
  | .next, m, H => WS c (execs rest c.env) m H Q
  | f, m, H => Q f m H
theorem ws_cons {st : Stmt} {rest : List Stmt} {Q : Flow → Loc → AH → Prop} (h : WS c (exec st c.env) m H (After c rest Q)) : WS c (execs (st :: rest) c.env) m H Q := fun _ I =>
  wpAny_execs_cons (h.seq I fun f m' H' s' I' q => by cases f <;> first | exact q s' I' | exact ps I' q)
theorem ws_if_ {test : Expr} {body orelse : List Stmt} {pos : Pos} {Q : Flow → Loc → AH → Prop}
    (h : WE c (PySem.isTrue test c.env (eval test c.env)) m H fun b H' => if b = true then WS c (execs body c.env) m H' Q else WS c (execs orelse c.env) m H' Q) : WS c (exec (.If test body orelse pos) c.env) m H Q := fun _ I =>
  wpAny_If (h.seq I fun b H' s' I' q => by cases b <;> exact q s' I')
theorem ws_ret {e : Expr} {pos : Pos} {Q : Flow → Loc → AH → Prop} (h : WE c (eval e c.env) m H fun v H' => Q (.ret v) m H') : WS c (exec (.Return (some e) pos) c.env) m H Q := fun _ I =>
  wpAny_Return_some (h.seq I fun _ H' _ I' q => ps I' q)

/-! ## expressions -/
theorem we_none {k : Nat} {pos : Pos} {Q : Value → AH → Prop} (h : Q .none H) : WE c (eval (.Constant .none k pos) c.env) m H Q := fun _ I => wpAny_Constant_none (pq I h)
theorem we_int {i : Int} {k : Nat} {pos : Pos} {Q : Value → AH → Prop} (h : ∀ t, Q (.int i t) H) : WE c (eval (.Constant (.int i) k pos) c.env) m H Q := fun _ I => wpAny_Constant_int (pq (I.toks _) (h _))
theorem we_str {x : Str} {k : Nat} {pos : Pos} {Q : Value → AH → Prop} (h : ∀ t, Q (.str x t) H) : WE c (eval (.Constant (.str x) k pos) c.env) m H Q := fun _ I => Calls.Constant_str (pq (I.toks _) (h _))
theorem we_bool {b : Bool} {k : Nat} {pos : Pos} {Q : Value → AH → Prop} (h : Q (.bool b) H) : WE c (eval (.Constant (.bool b) k pos) c.env) m H Q := fun _ I => wpAny_pure (pq I h)

theorem we_binOp {l r : Expr} {op : Operator} {pos : Pos} {Q : Value → AH → Prop} (h : WE c (eval l c.env) m H fun a H1 => WE c (eval r c.env) m H1 fun b H2 => WE c (binaryOp op a b) m H2 Q) : WE c (eval (.BinOp l op r pos) c.env) m H Q := fun _ I =>
  wpAny_BinOp (h.seq I fun _ _ _ I1 h1 => h1.seq I1 fun _ _ s2 I2 h2 => h2 s2 I2)
theorem we_compare {l r : Expr} {op : CmpOp} {pos : Pos} {Q : Value → AH → Prop} (h : WE c (eval l c.env) m H fun a H1 => WE c (eval r c.env) m H1 fun b H2 => WE c (compareOp op a b) m H2 Q) (hb : behindInMarks op r = false) : WE c (eval (.Compare l [op] [r] pos) c.env) m H Q := fun _ I =>
  wpAny_Compare1 (h.seq I fun _ _ _ I1 h1 => h1.seq I1 fun _ _ s2 I2 h2 => h2 s2 I2) hb
theorem we_tCompare {l r : Expr} {op : CmpOp} {pos : Pos} {whole : Sem Value} {Q : Bool → AH → Prop} (h : WE c (eval l c.env) m H fun a H1 => WE c (eval r c.env) m H1 fun b H2 => WE c (compareOp op a b) m H2 fun v H3 => ∃ b, v = .bool b ∧ Q b H3) (hb : behindInMarks op r = false) : WE c (PySem.isTrue (.Compare l [op] [r] pos) c.env whole) m H Q := fun _ I =>
  wpAny_isTrue_Compare1 (h.seq I fun _ _ _ I1 h1 => h1.seq I1 fun _ _ _ I2 h2 => h2.seq I2 fun v H3 s3 I3 ⟨b, e, q⟩ => by subst e; exact wpAny_truthy_bool (pq I3 q)) hb
theorem we_tNot {x : Expr} {pos : Pos} {whole : Sem Value} {Q : Bool → AH → Prop} (h : WE c (PySem.isTrue x c.env (eval x c.env)) m H fun b H' => Q (!b) H') : WE c (PySem.isTrue (.UnaryOp .Not x pos) c.env whole) m H Q := fun _ I =>
  isTrue_not (h.seq I fun _ H' _ I' q => pq I' q)
theorem we_tAndNil {pos : Pos} {whole : Sem Value} {Q : Bool → AH → Prop} (h : Q true H) : WE c (PySem.isTrue (.BoolOp .And [] pos) c.env whole) m H Q := fun _ I => isTrue_and_nil (pq I h)
theorem we_tOrNil {pos : Pos} {whole : Sem Value} {Q : Bool → AH → Prop} (h : Q false H) : WE c (PySem.isTrue (.BoolOp .Or [] pos) c.env whole) m H Q := fun _ I => isTrue_or_nil (pq I h)
theorem we_tAnd {x : Expr} {rest : List Expr} {pos : Pos} {whole : Sem Value} {Q : Bool → AH → Prop} (h : WE c (PySem.isTrue x c.env (eval x c.env)) m H fun b H' => if b = true then WE c (PySem.isTrue (.BoolOp .And rest pos) c.env whole) m H' Q else Q false H') : WE c (PySem.isTrue (.BoolOp .And (x :: rest) pos) c.env whole) m H Q := fun _ I =>
  isTrue_and (h.seq I fun b H' s' I' q => by cases b; exact pq I' q; exact q s' I')
theorem we_tOr {x : Expr} {rest : List Expr} {pos : Pos} {whole : Sem Value} {Q : Bool → AH → Prop} (h : WE c (PySem.isTrue x c.env (eval x c.env)) m H fun b H' => if b = true then Q true H' else WE c (PySem.isTrue (.BoolOp .Or rest pos) c.env whole) m H' Q) : WE c (PySem.isTrue (.BoolOp .Or (x :: rest) pos) c.env whole) m H Q := fun _ I =>
  isTrue_or (h.seq I fun b H' s' I' q => by cases b; exact q s' I'; exact pq I' q)
/-- a test that is no comparison, no 'not', no 'and', 'or' -/
theorem we_tPlain {e : Expr} {whole : Sem Value} {Q : Bool → AH → Prop} (h : WE c whole m H fun v H' => ∃ b, v = .bool b ∧ Q b H') (he : PySem.isTrue e c.env whole = (do let v ← whole; standAt e.pos; holding [v] (truthy v))) : WE c (PySem.isTrue e c.env whole) m H Q := fun _ I =>
  isTrue_plain (h.seq I fun v H' s' I' ⟨b, e, q⟩ => by subst e; exact wpAny_truthy_bool (pq I' q)) he
theorem we_ifExp {test body orelse : Expr} {pos : Pos} {Q : Value → AH → Prop} (h : WE c (PySem.isTrue test c.env (eval test c.env)) m H fun b H' => if b = true then WE c (eval body c.env) m H' Q else WE c (eval orelse c.env) m H' Q) : WE c (eval (.IfExp test body orelse pos) c.env) m H Q := fun _ I =>
  IfExp_ (h.seq I fun b H' s' I' q => by cases b <;> exact q s' I')
theorem we_and1 {e : Expr} {op : BoolOp} {pos : Pos} {Q : Value → AH → Prop} (h : WE c (eval e c.env) m H Q) : WE c (eval (.BoolOp op [e] pos) c.env) m H Q := h
theorem we_and {e₁ e₂ : Expr} {rest : List Expr} {pos : Pos} {Q : Value → AH → Prop} (h : WE c (eval e₁ c.env) m H fun v H' => ∃ b, v = .bool b ∧ if b = true then WE c (eval (.BoolOp .And (e₂ :: rest) pos) c.env) m H' Q else Q (.bool false) H') : WE c (eval (.BoolOp .And (e₁ :: e₂ :: rest) pos) c.env) m H Q := fun _ I =>
  BoolOp_and (h.seq I fun v H' s' I' ⟨b, e, q⟩ => by subst e; refine wpAny_truthy_bool ?_; cases b; exact pq I' q; exact q s' I')
theorem we_or {e₁ e₂ : Expr} {rest : List Expr} {pos : Pos} {Q : Value → AH → Prop} (h : WE c (eval e₁ c.env) m H fun v H' => ∃ b, v = .bool b ∧ if b = true then Q (.bool true) H' else WE c (eval (.BoolOp .Or (e₂ :: rest) pos) c.env) m H' Q) : WE c (eval (.BoolOp .Or (e₁ :: e₂ :: rest) pos) c.env) m H Q := fun _ I =>
  BoolOp_or (h.seq I fun v H' s' I' ⟨b, e, q⟩ => by subst e; refine wpAny_truthy_bool ?_; cases b; exact q s' I'; exact pq I' q)
theorem we_unary {e : Expr} {op : UnaryOp} {pos : Pos} {Q : Value → AH → Prop} (h : WE c (eval e c.env) m H fun v H' => WE c (unaryOp op v) m H' Q) : WE c (eval (.UnaryOp op e pos) c.env) m H Q := fun _ I =>
  wpAny_UnaryOp (h.seq I fun _ _ s' I' q => q s' I')

/-! ## plain operations -/
variable {a b : Int} {t u : Tok} {x y : Str} {Q : Value → AH → Prop}
theorem we_addI (h : ∀ t, Q (.int (a + b) t) H) : WE c (binaryOp .Add (.int a t) (.int b u)) m H Q := by
  unfold WE; intro s I; with_reducible refine add_int ?_; exact pq (I.toks _) (h _)
theorem we_subI (h : ∀ t, Q (.int (a - b) t) H) : WE c (binaryOp .Sub (.int a t) (.int b u)) m H Q := by
  unfold WE; intro s I; with_reducible refine sub_int ?_; exact pq (I.toks _) (h _)
theorem we_modI (hb : b ≠ 0) (h : ∀ t, Q (.int (a.fmod b) t) H) : WE c (binaryOp .Mod (.int a t) (.int b u)) m H Q := by
  unfold WE; intro s I; with_reducible refine mod_int' hb ?_; exact pq (I.toks _) (h _)
theorem we_eqI (h : Q (.bool (a == b)) H) : WE c (compareOp .Eq (.int a t) (.int b u)) m H Q := by
  unfold WE; intro s I; with_reducible refine eq_int ?_; exact pq I h
theorem we_gtI (h : Q (.bool (decide (a > b))) H) : WE c (compareOp .Gt (.int a t) (.int b u)) m H Q := by
  unfold WE; intro s I; with_reducible refine gt_int ?_; exact pq I h
theorem we_ltI (h : Q (.bool (decide (a < b))) H) : WE c (compareOp .Lt (.int a t) (.int b u)) m H Q := by
  unfold WE; intro s I; with_reducible refine lt_int ?_; exact pq I h
theorem we_neI (h : Q (.bool (a != b)) H) : WE c (compareOp .NotEq (.int a t) (.int b u)) m H Q := by
  unfold WE; intro s I; with_reducible refine ne_int ?_; exact pq I h
theorem we_geI (h : Q (.bool (decide (a ≥ b))) H) : WE c (compareOp .GtE (.int a t) (.int b u)) m H Q := by
  unfold WE; intro s I; with_reducible refine ge_int ?_; exact pq I h
theorem str_beq (x y : Str) : (x.cps.toList == y.cps.toList) = (x == y) := by
  rw [Bool.eq_iff_iff, beq_iff_eq, beq_iff_eq]
  constructor
  · intro h; cases x; cases y; simp only [Str.mk.injEq]; exact Array.toList_inj.mp h
  · rintro rfl; rfl
theorem we_eqS (h : Q (.bool (x == y)) H) : WE c (compareOp .Eq (.str x t) (.str y u)) m H Q := fun _ I => P.eq_str (pq I (by rw [str_beq]; exact h))
theorem we_neS (h : Q (.bool (x != y)) H) : WE c (compareOp .NotEq (.str x t) (.str y u)) m H Q := fun _ I => P.ne_str (pq I (by
  have : (x.cps.toList != y.cps.toList) = (x != y) := congrArg (!·) (str_beq x y)
  rw [this]; exact h))

end Mine
namespace Mine
variable {K : Params → Frag} {c : Cx K} {m : Loc} {H : AH}

/-! ## entries -/
theorem Ents.find {P : Params} {es : List DictEntry} {fs : List (Str × Value)} (h : Ents P es fs) (x : Str) : (es.find? (·.key.isStr x)).map (·.val) = fs.lookup x := by
  induction h with
  | nil => rfl
  | @cons y t v es fs _ ih =>
    rw [List.find?_cons, List.lookup_cons]
    have e : (Value.str y t).isStr x = (y == x) := rfl
    have e2 : (x == y) = (y == x) := by rw [Bool.eq_iff_iff, beq_iff_eq, beq_iff_eq]; exact ⟨Eq.symm, Eq.symm⟩
    simp only [e, e2]
    cases (y == x) with
    | true => rfl
    | false => exact ih
theorem Ents.noRef {P : Params} {es : List DictEntry} {fs : List (Str × Value)} (h : Ents P es fs) : es.any (·.refKey) = false := by
  induction h with
  | nil => rfl
  | cons _ ih => rw [List.any_cons, ih]; rfl
theorem Ents.getL {P : Params} {es : List DictEntry} {fs : List (Str × Value)} (h : Ents P es fs) (x : Str) : getL x es = some (fs.lookup x) := by
  have e := h.find x
  unfold W.getL
  cases q : es.find? (·.key.isStr x) with
  | some d => rw [q] at e; exact congrArg some e
  | none => rw [q] at e; simp only [h.noRef]; exact congrArg some e
theorem Ents.length {P : Params} {es : List DictEntry} {fs : List (Str × Value)} (h : Ents P es fs) : es.length = fs.length := by
  induction h with
  | nil => rfl
  | cons _ ih => simp [ih]
theorem Ents.strKeys {P : Params} {es : List DictEntry} {fs : List (Str × Value)} (h : Ents P es fs) : StrKeys es.toArray := by
  intro e he
  rw [List.mem_toArray] at he
  induction h with
  | nil => cases he
  | cons _ ih => rcases List.mem_cons.mp he with rfl | he; exact ⟨_, _, rfl⟩; exact ih he
theorem Ents.nsFind {P : Params} {es : List DictEntry} {fs : List (Str × Value)} (h : Ents P es fs) (x : Str) : nsFind es.toArray x = fs.lookup x := by
  unfold PySem.nsFind findBy
  rw [List.find?_toArray]
  have := h.find x
  cases q : es.find? (·.key.isStr x) with
  | some d => rw [q] at this; simpa using this
  | none => rw [q] at this; simpa using this
noncomputable def putF (x : Str) (v : Value) : List (Str × Value) → List (Str × Value)
  | [] => [(x, v)]
  | (y, u) :: r => if y == x then (y, v) :: r else (y, u) :: putF x v r
theorem Ents.put {P : Params} {es : List DictEntry} {fs : List (Str × Value)} (h : Ents P es fs) (x : Str) (t : Tok) (v : Value) : Ents P (putL x (PyData.keyHash P x) (.str x t) v es) (putF x v fs) := by
  induction h with
  | nil => exact .cons .nil
  | @cons y t' v' es fs r ih =>
    unfold putL putF
    have e : (Value.str y t').isStr x = (y == x) := rfl
    simp only [e]
    cases (y == x) with
    | true => exact .cons r
    | false => exact .cons ih
theorem putF_length (x : Str) (v : Value) : ∀ fs : List (Str × Value), (putF x v fs).length ≤ fs.length + 1
  | [] => Nat.le_refl _
  | (y, u) :: r => by
    unfold putF
    cases (y == x) with
    | true => simp
    | false => simpa using putF_length x v r

/-! ## lookups -/
theorem lk_here {α : Type} {x : Str} {v : α} {r : List (Str × α)} : List.lookup x ((x, v) :: r) = some v := by rw [List.lookup_cons, beq_self_eq_true]
theorem lk_next {α : Type} {x y : Str} {u v : α} {r : List (Str × α)} (h : (x == y) = false) (h' : List.lookup x r = some v) : List.lookup x ((y, u) :: r) = some v := by rw [List.lookup_cons, h]; exact h'

/-! ## the environment -/
structure EnvIs (c : Cx K) (sc : Scope) (cl : List (Str × Addr)) (D : Addr) : Prop where
  scope : c.env.scope = sc
  cells : c.env.cells = cl
  locals : c.env.locals = D
  globals : c.env.globals = mainGlobals
  builtins : c.env.builtins = builtinsNs
noncomputable def kindIs (sc : Scope) (x : Str) (k : NameKind) : Bool := sc.names.lookup x == some k && (sc.kind == .function && !(x == ("__debug__" : Str)))
theorem kindIs_of {sc : Scope} {x : Str} {k : NameKind} (h : kindIs sc x k = true) : sc.names.lookup x = some k ∧ sc.kind = .function ∧ (x == ("__debug__" : Str)) = false := by
  unfold kindIs at h
  simp only [Bool.and_eq_true, Bool.not_eq_true', beq_iff_eq] at h
  exact ⟨h.1, h.2.1, h.2.2⟩
variable {sc : Scope} {cl : List (Str × Addr)} {D : Addr} {x : Str} {pos : Pos} {v : Value} {Q : Value → AH → Prop}

theorem named {k : NameKind} (e : EnvIs c sc cl D) (hk : kindIs sc x k = true) : c.env.scope.kind = .function ∧ c.env.kindOf x = some k ∧ (x == ("__debug__" : Str)) = false := by
  obtain ⟨h1, h2, h3⟩ := kindIs_of hk
  unfold Env.kindOf
  rw [e.scope]
  exact ⟨h2, h1, h3⟩
theorem notClass {env : Env} (h : env.scope.kind = .function) : (env.scope.kind == .class || (env.scope.kind == .module && env.locals != env.globals)) = false := by rw [h]; rfl
theorem we_localAt {D : Addr} {f : Str → Option Value} (e : EnvIs c sc cl D) (hk : kindIs sc x .local = true) (hv : f x = some v) (h : Q v H) (hf : ∀ s news, Fr c.h₀ c.L s (nm m) → News c.h₀ c.L s news → Led c.w.params news H → s.Ns D f) : WE c (eval (.Name x pos) c.env) m H Q := WE.of fun s news I F N L =>
  have k := named e hk
  wpAny_Name (wpAny_loadName_local k.1 k.2.1 (e.locals.symm ▸ hf _ _ F N L) hv (pq I h)) k.2.2
theorem we_local (e : EnvIs c sc cl c.L) (hk : kindIs sc x .local = true) (hv : List.lookup x m = some v) (h : Q v H) : WE c (eval (.Name x pos) c.env) m H Q :=
  we_localAt (f := nm m) e hk hv h fun _ _ F _ _ => F.ns
theorem Led.ns {P : Params} {news : List (Addr × Obj)} {h₀ h : Heap} {L : Addr} {fs : List (Str × Value)} (l : Led P news H) (N : News h₀ L h news) (hd : H D = some (.ns fs)) : h.Ns D (nm fs) := by
  obtain ⟨ob, hm, es, n, h1, h2, h3⟩ := (l _ _ hd).shape rfl
  exact ⟨_, _, _, N.get hm, h1, h2, h3⟩
theorem we_localD {fs : List (Str × Value)} (e : EnvIs c sc cl D) (hk : kindIs sc x .local = true) (hd : H D = some (.ns fs)) (hv : List.lookup x fs = some v) (h : Q v H) : WE c (eval (.Name x pos) c.env) m H Q :=
  we_localAt (f := nm fs) e hk hv h fun _ _ _ N L => L.ns N hd
theorem Led.cellAt {P : Params} {news : List (Addr × Obj)} {h₀ h : Heap} {L a : Addr} {u : Option Value} (l : Led P news H) (N : News h₀ L h news) (ha : H a = some (.cell u)) : ∃ o, (a, o) ∈ news ∧ h.IsCell a u := by
  obtain ⟨o, hm, hd⟩ := (l _ _ ha).shape rfl
  exact ⟨o, hm, o, N.get hm, hd⟩
theorem we_cell {a : Addr} (e : EnvIs c sc cl D) (hk : kindIs sc x .cell = true) (hc : List.lookup x cl = some a) (ha : H a = some (.cell (some v))) (h : Q v H) : WE c (eval (.Name x pos) c.env) m H Q := WE.of fun s news I F N L =>
  have k := named e hk
  wpAny_Name (wpAny_loadName_cell k.1 k.2.1 (e.cells.symm ▸ hc) (L.cellAt N ha).choose_spec.2 (pq I h)) k.2.2
theorem we_global (e : EnvIs c sc cl D) (hk : kindIs sc x .globalImplicit = true) (hg : nsIn (K c.w.params) mainGlobals x = some (some v)) (h : Q v H) : WE c (eval (.Name x pos) c.env) m H Q := WE.of fun s news I F N L =>
  have k := named e hk
  Name_function_global k.1 k.2.1 (loadGlobal_global (e.globals.symm ▸ c.top.g.keeps F.keep) (mg_of c.kin c.top.g hg) (pq I h)) k.2.2
theorem we_builtin (e : EnvIs c sc cl D) (hk : kindIs sc x .globalImplicit = true) (hg : nsIn (K c.w.params) mainGlobals x = some none) (hb : bootBuiltins x = some v) (hn : (x == ("__name__" : Str)) = false) (h : Q v H) : WE c (eval (.Name x pos) c.env) m H Q := WE.of fun s news I F N L =>
  have k := named e hk
  Name_function_global k.1 k.2.1 (loadGlobal_builtin (e.globals.symm ▸ c.top.g.keeps F.keep) (mg_none_of c.kin c.top.g hg) (e.builtins.symm ▸ c.top.b.keeps F.keep) ((c.top.builtins x (beq_eq_false_iff_ne.mp hn)).trans hb) (pq I h)) k.2.2

/-! ## stores -/
theorem lookup_set (x : Str) (v : Value) (m : Loc) : (fun y => if y = x then some v else nm m y) = nm ((x, v) :: m) := by
  funext y
  unfold nm
  rw [List.lookup_cons]
  by_cases h : y = x
  · subst h; rw [if_pos rfl, beq_self_eq_true]
  · rw [if_neg h, beq_eq_false_iff_ne.mpr h]
/-- a plain name is stored -/
theorem storeAt {s : Shared} {R : Unit → Shared → Prop} {E : Value → Shared → Prop} (e : EnvIs c sc cl c.L) (hk : kindIs sc x .local = true) (I : Inv c m H s) (h : ∀ s', Inv c ((x, v) :: m) H s' → R () s') : wpAny (model c.prog c.w) c.A (storeName c.env x v) R E s :=
  have k := named e hk
  I.ex.elim fun news X => wpAny_storeName_local k.2.1 (e.locals.symm ▸ X.1.ns) (fun h' hn hsb => h _ (I.heap (by rw [e.locals] at hn hsb; rw [← lookup_set]; exact X.1.set hn hsb) (X.2.1.set (e.locals ▸ hsb)) X.2.2)) (notClass k.1)
theorem ws_assign {value : Expr} {pos' pos : Pos} {Q : Flow → Loc → AH → Prop} (e : EnvIs c sc cl c.L) (hk : kindIs sc x .local = true) (hs : swapsWith value (some (.Name x pos')) pos.line c.env = pure false)
    (h : WE c (eval value c.env) m H fun v H' => Q .next ((x, v) :: m) H') : WS c (exec (.Assign [.Name x pos'] value pos) c.env) m H Q := fun s I =>
  wpAny_Assign_Name (h.seq I fun v H' s' I' q => storeAt e hk I' fun s2 I2 => ps I2 q) hs
theorem ws_assignC {value : Expr} {pos' pos : Pos} {a : Addr} {Q : Flow → Loc → AH → Prop} (e : EnvIs c sc cl D) (hk : kindIs sc x .cell = true) (hc : List.lookup x cl = some a) (hs : swapsWith value (some (.Name x pos')) pos.line c.env = pure false)
    (h : WE c (eval value c.env) m H fun v H' => ∃ u, H' a = some (.cell u) ∧ Q .next m (H'.put a (.cell (some v)))) : WS c (exec (.Assign [.Name x pos'] value pos) c.env) m H Q := fun s I => by
  have k := named e hk
  refine wpAny_Assign_Name (h.seq I fun v H' s' I' q => ?_) hs
  obtain ⟨u, ha, q⟩ := q
  obtain ⟨news, F, N, L⟩ := I'.ex
  obtain ⟨o, hm, hc2⟩ := L.cellAt N ha
  exact wpAny_storeName_cell k.1 k.2.1 (e.cells.symm ▸ hc) hc2 fun h' hv hsb => hv.elim fun o' x => ps (I'.turnedI (o' := .cell (some v)) F N L ha hm rfl hsb x.1 x.2) q

/-! ## fields -/
noncomputable def attrOk (K : Frag) (C : Addr) (n : Str) : Bool := plainGet K C n && (hasDictIn K C && findIn K (.ref C) n == some none)
noncomputable def setOk (K : Frag) (C : Addr) (n : Str) : Bool := (findIn K (.ref C) "__setattr__" == some (some (.builtin "object.__setattr__")) && plainOver K C) && (takerIn K C n == some none && hasDictIn K C)
theorem Led.instAt {P : Params} {news : List (Addr × Obj)} {h₀ h : Heap} {L a C : Addr} {fs : List (Str × Value)} (l : Led P news H) (N : News h₀ L h news) (ha : H a = some (.inst C fs)) :
    ∃ dx es n, (a, instObj C dx) ∈ news ∧ (dx, dictOf es n) ∈ news ∧ Ents P es fs ∧ H dx = some (.part a) ∧ W.InstAt h a (instObj C dx) C (some (dictOf es n)) := by
  obtain ⟨dx, es, n, h1, h2, h3, h4⟩ := (l _ _ ha).inst
  exact ⟨dx, es, n, h1, h2, h3, h4, InstAt.of_news N h1 h2⟩
theorem WE.ins {α : Type} {t : Sem α} {Q : α → AH → Prop} {a C : Addr} {fs : List (Str × Value)} (ha : H a = some (.inst C fs)) (h : ∀ s news dx es n, Inv c m H s → Fr c.h₀ c.L s.heap (nm m) → News c.h₀ c.L s.heap news → Led c.w.params news H → (a, instObj C dx) ∈ news → (dx, dictOf es n) ∈ news → Ents c.w.params es fs → H dx = some (.part a) → W.InstAt s.heap a (instObj C dx) C (some (dictOf es n)) → wpAny (model c.prog c.w) c.A t (PQ c m Q) EF s) : WE c t m H Q :=
  WE.of fun s news I F N L => let ⟨dx, es, n, h1, h2, h3, h4, IA⟩ := L.instAt N ha; h s news dx es n I F N L h1 h2 h3 h4 IA
theorem we_getA {a C : Addr} {fs : List (Str × Value)} {ex : Bool} (ha : H a = some (.inst C fs)) (ok : attrOk (K c.w.params) C x = true) (hl : List.lookup x fs = some v) (hv : handedIn v = true) (h : Q v H) : WE c (getAttr (.ref a) x ex) m H Q := WE.ins ha fun s news dx es n I F N L h1 h2 h3 h4 IA =>
  have ok1 := Bool.and_eq_true_iff.mp ok
  have ok2 := Bool.and_eq_true_iff.mp ok1.2
  get_own F c.kin IA ok1.1 ok2.1 (beq_iff_eq.mp ok2.2) rfl ((h3.getL x).trans (congrArg some hl)) hv (pq (I.toks _) h)
theorem we_attrAny {e : Expr} {pos : Pos} (h : WE c (eval e c.env) m H fun o H' => WE c (getAttr o x true) m H' Q)
    (he : eval (.Attribute e x pos) c.env = (do let o ← eval e c.env; standAt pos.atName; let r ← holding [o] (getAttr o x true); letTemporaryGo e o r; pure r)) : WE c (eval (.Attribute e x pos) c.env) m H Q := fun s I =>
  Attribute_any_ (h.seq I fun o H' s' I' q => q s' I') he
theorem we_setA {a C : Addr} {fs : List (Str × Value)} {Q : Unit → AH → Prop} (ha : H a = some (.inst C fs)) (ok : setOk (K c.w.params) C x = true) (hz : fs.length ≤ 900) (h : Q () (H.put a (.inst C (putF x v fs)))) : WE c (setAttr (.ref a) x v) m H Q := WE.ins ha fun s news dx es n I F N L h1 h2 h3 h4 IA => by
  have ok1 := Bool.and_eq_true_iff.mp ok
  have ok2 := Bool.and_eq_true_iff.mp ok1.1
  have ok3 := Bool.and_eq_true_iff.mp ok1.2
  have N₂ : News c.h₀ c.L s.heap ((dx, dictOf es n) :: without news dx) := fun p hp => by
    rcases List.mem_cons.mp hp with rfl | hp
    · exact N _ h2
    · exact N _ (mem_without.mp hp).1
  refine set_dict (es' := putL x (PyData.keyHash c.w.params x) (.str x (s.toks + 1)) v es) (n' := putN x es n) F c.kin N₂ IA rfl (beq_iff_eq.mp ok2.1) ok2.2 (beq_iff_eq.mp ok3.1) ok3.2 (by rw [h3.getL]; rfl) rfl (.head fun p hp => (mem_without.mp hp).2) ?_ fun h' F' N' => pq (I.heap F' N' (L.field ha h1 h4 (h3.put _ _ _))) h
  rw [(h3.put x (s.toks + 1) v).length]; exact Nat.le_trans (putF_length x v fs) (by omega)
theorem ws_setAttr {o value : Expr} {pos' pos : Pos} {Q : Flow → Loc → AH → Prop} (hs : swapsWith value (some (.Attribute o x pos')) pos.line c.env = pure false)
    (h : WE c (eval value c.env) m H fun v H1 => WE c (eval o c.env) m H1 fun ov H2 => WE c (PySem.setAttr ov x v) m H2 fun _ H3 => Q .next m H3) : WS c (exec (.Assign [.Attribute o x pos'] value pos) c.env) m H Q := fun s I =>
  plainObj_wpAny_Assign_Attribute (h.seq I fun _ _ _ I1 h1 => h1.seq I1 fun _ _ _ I2 h2 => h2.seq I2 fun _ H3 _ I3 q => ps I3 q) hs
end Mine
namespace Mine
variable {K : Params → Frag} {c : Cx K} {m : Loc} {H : AH}

/-! ## calls of the text's own defs -/
/-- what the written part says of a def -/
structure FnIs (K : Frag) (f : Addr) (params : Arguments) (body : List Stmt) (sc : Scope) (dV : Value) : Prop where
  ex : ∃ name qual kV doc pm cdv ct oc an od osl, K.lookup f = some ⟨oc, od, .func (fnX name qual params body sc [] dV kV doc pm an cdv ct), osl⟩ ∧ codeIn K cdv qual = true
  co : sc.isCoroutine = false
  gen : sc.isGenerator = false
  kind : sc.kind = .function

/-- the frame of a def that is called from c with the room A' -/
structure Sub (c c' : Cx K) (A' : Around) (sc : Scope) (cl : List (Str × Addr)) : Prop where
  prog : c'.prog = c.prog
  w : c'.w = c.w
  depth : c'.A.depth = A'.depth + 1
  units : c'.A.units = A'.units + 3
  env : EnvIs c' sc cl c'.L
  keep : ∀ a o, c.h₀.get? a = some o → c'.h₀.get? a = some o

noncomputable def retv : Flow → Value
  | .ret v => v
  | _ => .none

theorem Inv.k {c : Cx K} {s : Shared} (I : Inv c m H s) : (K c.w.params).In s.heap := by
  obtain ⟨news, F, N, L⟩ := I.ex
  exact c.kin.keeps F.keep

theorem fun_call {A' : Around} {Q : Value → AH → Prop} {s : Shared} {f : Addr} {params : Arguments} {body : List Stmt} {sc : Scope} {dV : Value} {args : Args} {binds : List (Str × Value)} {R : Result → Shared → Prop}
    (I : Inv c m H s) (hA : A'.frames = c.A.frames) (hh : A'.handled = none) (hroom : A'.depth < recursionLimit) (fn : FnIs (K c.w.params) f params body sc dV) (hcell : sc.names.all (fun x => x.2 != .cell) = true)
    (hloc : binds.all (fun y => sc.names.lookup y.1 == some .local) = true)
    (hbind : ∀ name qual kV doc pm an cdv ct, BindsTo s (fnX name qual params body sc [] dV kV doc pm an cdv ct) args binds)
    (h : ∀ c' : Cx K, Sub c c' A' sc [] → WS c' (execs body c'.env) binds.reverse H fun fl _ H' => Q (retv fl) H')
    (hR : ∀ v s', PQ c m Q v s' → R (.ok (.ret v)) s') : codeAny (model c.prog c.w) A' (.call (.ref f) args) R s := by
  obtain ⟨news, F, N, L⟩ := I.ex
  obtain ⟨name, qual, kV, doc, pm, cdv, ct, oc, an, od, osl, ho, hcd⟩ := fn.ex
  refine callX_plain c.below F N c.top.nolimit (hA.trans c.frames) c.frame c.kind ((c.kin.keeps F.keep) _ _ ho) rfl (codeRec_of (c.kin.keeps F.keep) hcd) hroom (hbind name qual kV doc pm an cdv ct) (fun y hy => by simpa using List.all_eq_true.mp hloc y hy) (fun g L' h₁ FG F' N' B' st _ => ?_) (fun x hx e => by have := List.all_eq_true.mp hcell x hx; rw [e] at this; cases this) fn.co fn.gen fn.kind
  let env' := envX qual sc L' f cdv []
  let c' : Cx K := { c with A₀ := A', A := A'.deeper env', h₀ := g, outer := c.fenv :: c.outer, fenv := env', env := env', L := L', below := B', frames := Around.frames_deeper B'.stack, frame := rfl, kind := fn.kind, kin := c.kin.keeps st, top := c.top.keeps st, hand := hh, mods := c.mods.imp fun _ h => st _ _ h }
  have I' : Inv c' binds.reverse H { s with heap := h₁, toks := s.toks + binds.length } := ⟨⟨news, F', N', L⟩, I.rest⟩
  refine (h c' ⟨rfl, rfl, rfl, rfl, ⟨rfl, rfl, rfl, rfl, rfl⟩, st⟩).seqN I' fun fl m' H' s' J q => ?_
  obtain ⟨news', F2, N2, L2⟩ := J.ex
  refine ⟨L', _, news', F2, N2, fun F3 N3 => ?_⟩
  have := hR (retv fl) s' (pq ⟨⟨news', F3, N3, L2⟩, J.rest⟩ q)
  cases fl <;> exact this

theorem ws_fun {f : Addr} {params : Arguments} {body : List Stmt} {sc : Scope} {dV : Value} {args : List Value} {binds : List (Str × Value)} {Q : Value → AH → Prop}
    (fn : FnIs (K c.w.params) f params body sc dV) (hroom : c.A.depth < recursionLimit) (hcell : sc.names.all (fun x => x.2 != .cell) = true)
    (hloc : binds.all (fun y => sc.names.lookup y.1 == some .local) = true)
    (hbind : ∀ s, (K c.w.params).In s.heap → ∀ name qual kV doc pm an cdv ct, BindsTo s (fnX name qual params body sc [] dV kV doc pm an cdv ct) ⟨args, []⟩ binds)
    (h : ∀ c' : Cx K, Sub c c' c.A sc [] → WS c' (execs body c'.env) binds.reverse H fun fl _ H' => Q (retv fl) H') : WE c (call (.ref f) args) m H Q := fun s I =>
  wpAny_call (fun_call I rfl c.hand hroom fn hcell hloc (hbind s I.k) h fun _ _ x => x)

/-! ## objects made -/
theorem Led.newInst {P : Params} {news : List (Addr × Obj)} {x dx C : Addr} (L : Led P news H) (hx : H x = none) (hdx : H dx = none) (hne : x ≠ dx) : Led P ((x, instObj C dx) :: (dx, dictOf [] 0) :: news) ((H.put dx (.part x)).put x (.inst C [])) := by
  intro b o hb
  by_cases e : b = x
  · subst e; rw [put_self] at hb; cases hb
    exact .inr ⟨C, [], dx, [], 0, rfl, .head _, .tail _ (.head _), .nil, by rw [put_ne (Ne.symm hne), put_self]⟩
  · rw [put_ne e] at hb
    by_cases e2 : b = dx
    · subst e2; rw [put_self] at hb; cases hb
      exact .inl ⟨_, .tail _ (.head _), trivial⟩
    · rw [put_ne e2] at hb
      refine (L b o hb).mono (fun p hp => .tail _ (.tail _ hp)) fun d hd => ?_
      rw [put_ne, put_ne]; exact hd
      · rintro rfl; rw [hdx] at hd; cases hd
      · rintro rfl; rw [hx] at hd; cases hd
theorem ws_cls {C fI : Addr} {params : Arguments} {body : List Stmt} {sc : Scope} {dV : Value} {args : List Value} {binds : Value → List (Str × Value)} {Q : Value → AH → Prop}
    (hm : makesIn (K c.w.params) C = true) (hi : findIn (K c.w.params) (.ref C) "__init__" = some (some (.ref fI))) (hf : isFn (K c.w.params) (.ref fI) = true)
    (fn : FnIs (K c.w.params) fI params body sc dV) (hroom : c.A.depth + 1 < recursionLimit) (hcell : sc.names.all (fun x => x.2 != .cell) = true)
    (hloc : ∀ v, (binds v).all (fun y => sc.names.lookup y.1 == some .local) = true)
    (hbind : ∀ v s, (K c.w.params).In s.heap → ∀ name qual kV doc pm an cdv ct, BindsTo s (fnX name qual params body sc [] dV kV doc pm an cdv ct) ⟨v :: args, []⟩ (binds v))
    (h : ∀ (a dx : Addr) (A' : Around) (c' : Cx K), H a = none → H dx = none → a ≠ dx → A'.depth = c.A.depth + 1 → A'.units = c.A.units + 1 → Sub c c' A' sc [] →
      WS c' (execs body c'.env) (binds (.ref a)).reverse ((H.put dx (.part a)).put a (.inst C [])) fun fl _ H' => retv fl = .none ∧ Q (.ref a) H') : WE c (call (.ref C) args) m H Q := WE.of fun s news I F N L => by
  refine call_cls F c.kin N hm hi hf fun x dx h' F' N' l1 l2 => ?_
  have hdx : H dx = none := L.fresh l1
  have hx : H x = none := L.fresh fun p hp => Nat.lt_trans (l1 p hp) l2
  have hne : x ≠ dx := Nat.ne_of_gt l2
  have I' : Inv c m ((H.put dx (.part x)).put x (.inst C [])) { s with heap := h' } := I.heap F' N' (L.newInst hx hdx hne)
  exact fun_call (Q := fun v H' => v = .none ∧ Q (.ref x) H') I' rfl c.hand hroom fn hcell (hloc _) (hbind _ _ I'.k) (h x dx _ · hx hdx hne rfl rfl ·) fun v s' x => let ⟨_, J, q⟩ := x; ⟨q.1, pq J q.2⟩

/-! ## arguments -/
noncomputable def Args1 (c : Cx K) (pos : Pos) (es : List Expr) (m : Loc) (H : AH) (Q : List Value → AH → Prop) : Prop := WE c (spliced (backTo pos (starEach es c.env))) m H Q
variable {pos : Pos}
theorem args_nil {Q : List Value → AH → Prop} (h : Q [] H) : Args1 c pos [] m H Q := fun _ I => spliced_none ⟨H, I, h⟩
theorem args_cons {e : Expr} {rest : List Expr} {Q : List Value → AH → Prop} (h : WE c (eval e c.env) m H fun v H1 => Args1 c pos rest m H1 fun vs H2 => Q (v :: vs) H2) (he : starEach (e :: rest) c.env = (false, eval e c.env) :: starEach rest c.env) : Args1 c pos (e :: rest) m H Q := fun _ I =>
  spliced_more (h.seq I fun _ _ _ I1 h1 => h1.seq I1 fun _ _ _ I2 q => pq I2 q) he
theorem we_list {elts : List Expr} {Q : Value → AH → Prop} (h : Args1 c pos elts m H fun vs H1 => WE c (newList vs) m H1 Q) : WE c (eval (.List elts pos) c.env) m H Q := fun _ I =>
  List_ (WE.seq h I fun _ _ s' I' q => q s' I')
theorem we_tuple {elts : List Expr} {k : Nat} {Q : Value → AH → Prop} (h : Args1 c pos elts m H fun vs H1 => WE c (newTuple vs) m H1 Q) : WE c (eval (.Tuple elts k pos) c.env) m H Q := fun _ I =>
  Tuple_ (WE.seq h I fun _ _ s' I' q => q s' I')
/-- a call by a name that the written part bears -/
theorem we_callK {f : Value} {first : List Value} {e : Expr} {rest : List Expr} {Q : Value → AH → Prop} (hk : keepIn (K c.w.params) f = true) (h : Args1 c pos (e :: rest) m H fun vs H1 => WE c (call f (first ++ vs)) m H1 Q)
    (he : starEach (e :: rest) c.env = (false, eval e c.env) :: starEach rest c.env) (hplain : (backTo pos (starEach rest c.env)).any (·.1) = false) : WE c (callWith pos f first (backTo pos (starEach (e :: rest) c.env)) []) m H Q := fun _ I =>
  callWith_K c.kin hk (WE.seq h I fun _ _ s' I' q => ⟨I'.k, q s' I'⟩) he hplain
theorem we_callK0 {f : Value} {first : List Value} {Q : Value → AH → Prop} (hk : keepIn (K c.w.params) f = true) (h : WE c (call f (first ++ [])) m H Q) : WE c (callWith pos f first (backTo pos (starEach [] c.env)) []) m H Q := fun s I =>
  callWith_K0 I.k hk (h s I)
theorem we_callB {id : String} {first : List Value} {e : Expr} {rest : List Expr} {Q : Value → AH → Prop} (h : Args1 c pos (e :: rest) m H fun vs H1 => WE c (call (.builtin id) (first ++ vs)) m H1 Q)
    (he : starEach (e :: rest) c.env = (false, eval e c.env) :: starEach rest c.env) (hplain : (backTo pos (starEach (e :: rest) c.env)).any (·.1) = false) : WE c (callWith pos (.builtin id) first (backTo pos (starEach (e :: rest) c.env)) []) m H Q := fun _ I =>
  callWith_builtin hplain (by rw [he]; exact evalArgs_plain (by have h' := h; unfold Args1 at h'; rw [he] at h'; exact WE.seq h' I fun _ _ s' I' q => q s' I'))
theorem we_callB0 {id : String} {first : List Value} {Q : Value → AH → Prop} (h : WE c (call (.builtin id) (first ++ [])) m H Q) : WE c (callWith pos (.builtin id) first (backTo pos (starEach [] c.env)) []) m H Q := fun s I =>
  callWith_builtin rfl (evalArgs_nil3 (h s I))
theorem we_call {func : Expr} {args : List Expr} {Q : Value → AH → Prop} (h : WE c (eval func c.env) m H fun f H1 => WE c (callWith pos f [] (backTo pos (starEach args c.env)) []) m H1 Q)
    (he : eval (.Call func args [] pos) c.env = (do let f ← eval func c.env; callWith pos f [] (backTo pos (starEach args c.env)) (backToKw pos (keywordEach [] c.env)))) : WE c (eval (.Call func args [] pos) c.env) m H Q := fun _ I =>
  Call_ (h.seq I fun _ _ s' I' q => q s' I') he
theorem we_meth {o : Expr} {name : Str} {apos : Pos} {args : List Expr} {pl : Sem Bool} {Q : Value → AH → Prop}
    (h : WE c (eval o c.env) m H fun ov H1 => WE c (getMethod ov name pl) m H1 fun fx H2 => WE c (callWith pos fx.1 fx.2 (backTo pos (starEach args c.env)) []) m H2 Q)
    (he : eval (.Call (.Attribute o name apos) args [] pos) c.env = (do let ov ← eval o c.env; standAt apos.atName; let (f, first) ← holding [ov] (getMethod ov name pl); callWith pos f first (backTo pos (starEach args c.env)) [])) : WE c (eval (.Call (.Attribute o name apos) args [] pos) c.env) m H Q := fun _ I =>
  MethodCall_ (h.seq I fun _ _ _ I1 h1 => h1.seq I1 fun _ _ s2 I2 h2 => h2 s2 I2) he

/-! ## new lists and tuples -/
theorem we_newList {vs : List Value} {Q : Value → AH → Prop} (hz : vs.length ≤ 16000000) (h : ∀ a, H a = none → Q (.ref a) (H.put a (.lst vs))) : WE c (newList vs) m H Q := WE.of fun s news I F N L =>
  newList_K F N (fun l h' F' N' l1 => I.made L F' N' l1 shLst h) (big hz)
theorem we_newTuple {vs : List Value} {Q : Value → AH → Prop} (hz : vs.length ≤ 16000000) (h : ∀ a, H a = none → Q (.ref a) (H.put a (.tup vs))) : WE c (newTuple vs) m H Q := WE.of fun s news I F N L =>
  newTuple_N F N (fun h' F' N' => I.made L F' N' (below_size N) shTup h) (big hz)
end Mine
namespace Mine
variable {K : Params → Frag} {c : Cx K} {m : Loc} {H : AH}

/-! ## a def with names that comprehensions hold -/
noncomputable def putCells (cm : Str → Option Value) : List (Str × Addr) → AH → AH
  | [], H => H
  | (x, a) :: r, H => (putCells cm r H).put a (.cell (cm x))
theorem putCells_ne (cm : Str → Option Value) {a : Addr} {H : AH} : ∀ {cl : List (Str × Addr)}, (∀ p ∈ cl, p.2 ≠ a) → putCells cm cl H a = H a
  | [], _ => rfl
  | (x, b) :: r, h => by
    unfold putCells
    rw [put_ne (Ne.symm (h _ (.head _)))]
    exact putCells_ne cm fun p hp => h p (.tail _ hp)
theorem Led.cells {P : Params} {news : List (Addr × Obj)} {H : AH} {cm : Str → Option Value} (h : Led P news H) : ∀ {cl : List (Str × Addr)} {cells : List (Addr × Obj)}, CellsAre cm cl cells → (∀ p ∈ cl, H p.2 = none) → (cl.map (·.2)).Nodup → Led P (cells ++ news) (putCells cm cl H)
  | _, _, .nil, _, _ => h
  | _, _, .cons (n := n) (c := a) (o := o) (cs := cs) (cells := cells) hd r, hf, hnd => by
    have hnd' := List.nodup_cons.mp hnd
    have ih := Led.cells h r (fun p hp => hf p (.tail _ hp)) hnd'.2
    have hne : putCells cm cs H a = none := by
      rw [putCells_ne]; exact hf _ (.head _)
      intro p hp e
      exact hnd'.1 (List.mem_map.mpr ⟨p, hp, e⟩)
    exact ih.push (o := .cell (cm n)) hne hd

theorem fun_callC {A' : Around} {Q : Value → AH → Prop} {R : Result → Shared → Prop} {s : Shared} {f : Addr} {params : Arguments} {body : List Stmt} {sc : Scope} {dV : Value} {args : Args} {binds : List (Str × Value)} {ml : Loc} {cm : Str → Option Value} {cells : Addr → List (Str × Addr)}
    (I : Inv c m H s) (hA : A'.frames = c.A.frames) (hh : A'.handled = none) (hroom : A'.depth < recursionLimit) (fn : FnIs (K c.w.params) f params body sc dV)
    (hcl : ∀ n, cellsFrom n sc.names [] = cells n) (hnd : ((cells 0).map (·.1)).Nodup) (hab : ∀ n, ((cells n).map (·.2)).Nodup ∧ ∀ p ∈ cells n, n ≤ p.2)
    (hkind : (binds.all fun y => sc.names.lookup y.1 == some .local || sc.names.lookup y.1 == some .cell) = true)
    (hml : bindL (fun y => sc.names.lookup y) binds (fun _ => none) = fun y => List.lookup y ml) (hcm : bindC (fun y => sc.names.lookup y) binds (fun _ => none) = cm)
    (hbind : ∀ name qual kV doc pm an cdv ct, BindsTo s (fnX name qual params body sc [] dV kV doc pm an cdv ct) args binds)
    (h : ∀ c' : Cx K, Sub c c' A' sc (cells (c'.L + 1)) → (∀ p ∈ cells (c'.L + 1), H p.2 = none) → WS c' (execs body c'.env) ml (putCells cm (cells (c'.L + 1)) H) fun fl _ H' => Q (retv fl) H')
    (hR : ∀ v s', PQ c m Q v s' → R (.ok (.ret v)) s') : codeAny (model c.prog c.w) A' (.call (.ref f) args) R s := by
  obtain ⟨news, F, N, L⟩ := I.ex
  obtain ⟨name, qual, kV, doc, pm, cdv, ct, oc, an, od, osl, ho, hcd⟩ := fn.ex
  refine callX_cells c.below F N c.top.nolimit (hA.trans c.frames) c.frame c.kind ((c.kin.keeps F.keep) _ _ ho) rfl (codeRec_of (c.kin.keeps F.keep) hcd) hroom (hbind name qual kV doc pm an cdv ct) (kindsX hkind) (by rw [hcl]; exact hnd) (fun g L' h₁ tk cs FG F' N' Y B' st lt => ?_) fn.co fn.gen fn.kind
  let env' := envOfC qual sc L' f cdv
  let c' : Cx K := { c with A₀ := A', A := A'.deeper env', h₀ := g, outer := c.fenv :: c.outer, fenv := env', env := env', L := L', below := B', frames := Around.frames_deeper B'.stack, frame := rfl, kind := fn.kind, kin := c.kin.keeps st, top := c.top.keeps st, hand := hh, mods := c.mods.imp fun _ h => st _ _ h }
  have fr : ∀ p ∈ cells (c'.L + 1), H p.2 = none := fun p hp => L.fresh fun q hq => Nat.lt_of_lt_of_le (lt q hq) (Nat.le_of_succ_le ((hab _).2 p hp))
  rw [show bindL env'.kindOf binds (fun _ => none) = nm ml from hml] at F'
  rw [show bindC env'.kindOf binds (fun _ => none) = cm from hcm, hcl] at Y
  have I' : Inv c' ml (putCells cm (cells (c'.L + 1)) H) { s with heap := h₁, toks := tk } := ⟨⟨cs ++ news, F', N', L.cells Y fr (hab _).1⟩, I.rest⟩
  refine (h c' ⟨rfl, rfl, rfl, rfl, ⟨rfl, hcl _, rfl, rfl, rfl⟩, st⟩ fr).seqN I' fun fl m' H' s' J q => ?_
  obtain ⟨news', F2, N2, L2⟩ := J.ex
  refine ⟨L', _, news', F2, N2, fun F3 N3 => ?_⟩
  have := hR (retv fl) s' (pq ⟨⟨news', F3, N3, L2⟩, J.rest⟩ q)
  cases fl <;> exact this

theorem ws_funC {f : Addr} {params : Arguments} {body : List Stmt} {sc : Scope} {dV : Value} {args : List Value} {binds : List (Str × Value)} {ml : Loc} {cm : Str → Option Value} {cells : Addr → List (Str × Addr)} {Q : Value → AH → Prop}
    (fn : FnIs (K c.w.params) f params body sc dV) (hroom : c.A.depth < recursionLimit)
    (hcl : ∀ n, cellsFrom n sc.names [] = cells n) (hnd : ((cells 0).map (·.1)).Nodup) (hab : ∀ n, ((cells n).map (·.2)).Nodup ∧ ∀ p ∈ cells n, n ≤ p.2)
    (hkind : (binds.all fun y => sc.names.lookup y.1 == some .local || sc.names.lookup y.1 == some .cell) = true)
    (hml : bindL (fun y => sc.names.lookup y) binds (fun _ => none) = fun y => List.lookup y ml) (hcm : bindC (fun y => sc.names.lookup y) binds (fun _ => none) = cm)
    (hbind : ∀ s, (K c.w.params).In s.heap → ∀ name qual kV doc pm an cdv ct, BindsTo s (fnX name qual params body sc [] dV kV doc pm an cdv ct) ⟨args, []⟩ binds)
    (h : ∀ c' : Cx K, Sub c c' c.A sc (cells (c'.L + 1)) → (∀ p ∈ cells (c'.L + 1), H p.2 = none) → WS c' (execs body c'.env) ml (putCells cm (cells (c'.L + 1)) H) fun fl _ H' => Q (retv fl) H') : WE c (call (.ref f) args) m H Q := fun s I =>
  wpAny_call (fun_callC I rfl c.hand hroom fn hcl hnd hab hkind hml hcm (hbind s I.k) h fun _ _ x => x)
end Mine
namespace Mine
variable {K : Params → Frag} {c : Cx K} {m : Loc} {H : AH}

theorem without_keep {news : List (Addr × Obj)} {d : Addr} {a : Addr} {ob x : Obj} (h : (a, x) ∈ news) (hc : a ≠ d) : (a, x) ∈ (d, ob) :: without news d := .tail _ (mem_without.mpr ⟨h, hc⟩)
/-- what an iterator of the ledger gives -/
structure Drives (c : Cx K) (it : Addr) (n : Nat) (st : Nat → AO) (side : AH → Prop) (P : Nat → Value → Prop) : Prop where
  item : ∀ i m H, i < n → H it = some (st i) → side H → WE c (pyNext (.ref it)) m H fun r H' => ∃ v, r = some v ∧ P i v ∧ H' = H.put it (st (i + 1))
  done : ∀ m H, H it = some (st n) → side H → WE c (pyNext (.ref it)) m H fun r H' => r = none ∧ H' = H.del it

theorem drives_list {it l : Addr} {vs : List Value} : Drives c it vs.length (.itl l) (fun H => H l = some (.lst vs)) fun i v => vs[i]? = some v where
  item := fun i m H hi hit hl => WE.lst hl fun s news n I F N L m2 hL => by
    obtain ⟨o1, m1, c1, d1⟩ := (L _ _ hit).shape rfl
    exact wpAny_pyNext_list_item (x := vs[i]) ⟨o1, N.get m1, c1, d1⟩ hL (by simp [hi]) fun h' hi' hs => hi'.elim fun o' x => pq (I.turnedI (o' := .itl l (i + 1)) F N L hit m1 rfl hs x.1 x.2) ⟨vs[i], rfl, by simp [hi], rfl⟩
  done := fun m H hit hl => WE.lst hl fun s news n I F N L m2 hL => by
    obtain ⟨o1, m1, c1, d1⟩ := (L _ _ hit).shape rfl
    exact wpAny_pyNext_list_end c.hand ⟨o1, N.get m1, c1, d1⟩ hL (by simp) fun h' hs => pq (I.dropped F N L hit m1 rfl hs) ⟨rfl, rfl⟩
theorem itr_next (i n : Nat) : (AO.itr ((i : Int) + 1) ((n : Int) - i - 1)) = .itr ((i + 1 : Nat) : Int) ((n : Int) - ((i + 1 : Nat) : Int)) := by rw [Int.sub_sub]; rfl
theorem drives_range {it : Addr} {n : Nat} : Drives c it n (fun i => .itr i ((n : Int) - i)) (fun _ => True) fun i v => ∃ t, v = .int i t where
  item := fun i m H hi hit _ => WE.of fun s news I F N L => by
    obtain ⟨o1, m1, rfl⟩ := (L _ _ hit).shape rfl
    exact wpAny_pyNext_range_item (N.get m1) (by omega) fun h' hi' hs => pq (I.turnedI (o' := .itr ((i : Int) + 1) ((n : Int) - i - 1)) F N L hit m1 rfl hs hi' rfl) ⟨_, rfl, ⟨_, rfl⟩, congrArg _ (itr_next i n)⟩
  done := fun m H hit _ => WE.of fun s news I F N L => by
    obtain ⟨o1, m1, rfl⟩ := (L _ _ hit).shape rfl
    exact wpAny_pyNext_range_end c.hand (N.get m1) (by omega) fun h' hs => pq (I.dropped F N L hit m1 rfl hs) ⟨rfl, rfl⟩

/-- a dict of texts, as the library has it -/
theorem Ents.keysOf {P : Params} {es : List DictEntry} {fs : List (Str × Value)} (h : Ents P es fs) : ∀ e ∈ es, ∃ x t, e.key = .str x t ∧ e.hash = PyData.keyHash P x := by
  induction h with
  | nil => intro e he; cases he
  | cons _ ih => intro e he; rcases List.mem_cons.mp he with rfl | he; exact ⟨_, _, rfl, rfl⟩; exact ih e he
theorem Ents.pairs {prog : Program} {w : World} {es : List DictEntry} {fs : List (Str × Value)} (h : Ents w.params es fs) : Pairs (PySem.strKind prog w) es fs := by
  induction h with
  | nil => exact .nil
  | @cons x t v es fs _ ih => exact .cons (strKind_is prog w x t) rfl ih
theorem Led.dictAt {prog : Program} {w : World} {news : List (Addr × Obj)} {h₀ h : Heap} {L d : Addr} {fs : List (Str × Value)} {ep : Nat} (l : Led w.params news H) (N : News h₀ L h news) (hd : H d = some (.dct fs ep)) (hn : (fs.map (·.1)).Nodup) : h.DictAt (PySem.strKind prog w) d fs ep := by
  obtain ⟨o, hm, es, rfl, he⟩ := (l _ _ hd).shape rfl
  exact ⟨_, es.toArray, N.get hm, ⟨rfl, rfl, rfl⟩, rfl, fun e he' => by
    obtain ⟨x, t, e1, e2⟩ := he.keysOf e (by simpa using he')
    exact ⟨x, by rw [e1]; exact strKind_is prog w x t, e2⟩, by simpa using he.pairs, hn⟩

theorem Led.notModules {P : Params} {news : List (Addr × Obj)} {h : Heap} {a : Addr} {o : AO} (c : Cx K) (l : Led P news H) (N : News c.h₀ c.L h news) (ha : H a = some o) : (a == sysModules) = false := by
  obtain ⟨ob, hm⟩ := (l _ _ ha).at_
  obtain ⟨o1, h1⟩ := c.mods
  refine beq_eq_false_iff_ne.mpr fun e => ?_
  have := (N _ hm).2.2
  rw [show a = sysModules from e, h1] at this; cases this
/-- a dict at hand -/
theorem WE.dct {α : Type} {t : Sem α} {Q : α → AH → Prop} {d : Addr} {fs : List (Str × Value)} {ep : Nat} (hd : H d = some (.dct fs ep)) (hn : (fs.map (·.1)).Nodup) (h : ∀ s news ob, Inv c m H s → Fr c.h₀ c.L s.heap (nm m) → News c.h₀ c.L s.heap news → Led c.w.params news H → (d, ob) ∈ news → s.heap.DictAt (PySem.strKind c.prog c.w) d fs ep → (d == sysModules) = false → wpAny (model c.prog c.w) c.A t (PQ c m Q) EF s) : WE c t m H Q :=
  WE.of fun s news I F N L => by
    obtain ⟨ob, m1, _⟩ := (L _ _ hd).shape rfl
    exact h s news ob I F N L m1 (L.dictAt N hd hn) (L.notModules c N hd)
theorem drives_dict {it d : Addr} {fs : List (Str × Value)} {ep : Nat} (hn : (fs.map (·.1)).Nodup) : Drives c it fs.length (fun i => .itd d i fs.length ep) (fun H => H d = some (.dct fs ep)) fun i v => ∃ x u t, fs[i]? = some (x, u) ∧ v = .str x t where
  item := fun i m H hi hit hl => WE.dct hl hn fun s news ob I F N L md hD lo => by
    obtain ⟨o1, m1, c1, d1⟩ := (L _ _ hit).shape rfl
    refine wpAny_pyNext_dict_item (knd := PySem.strKind c.prog c.w) (k := fs[i].1) (v := fs[i].2) ⟨o1, N.get m1, c1, d1⟩ hD (by simp [hi]) fun key h' hk hi' hs => ?_
    obtain ⟨o', ho', hc', hd'⟩ := hi'
    obtain ⟨t, rfl⟩ := Value.isStrOf_shape hk
    exact pq (I.turnedI (o' := .itd d (i + 1) fs.length ep) F N L hit m1 rfl hs ho' ⟨hc', hd'⟩) ⟨_, rfl, ⟨_, fs[i].2, t, by simp [hi], rfl⟩, rfl⟩
  done := fun m H hit hl => WE.dct hl hn fun s news ob I F N L md hD lo => by
    obtain ⟨o1, m1, c1, d1⟩ := (L _ _ hit).shape rfl
    exact wpAny_pyNext_dict_end (knd := PySem.strKind c.prog c.w) c.hand ⟨o1, N.get m1, c1, d1⟩ hD (by simp) fun h' hs => pq (I.dropped F N L hit m1 rfl hs) ⟨rfl, rfl⟩

/-! ## iterators made -/
theorem we_iterL {l : Addr} {vs : List Value} {Q : Value → AH → Prop} (hl : H l = some (.lst vs)) (h : ∀ it, H it = none → Q (.ref it) (H.put it (.itl l 0))) : WE c (pyIter (.ref l)) m H Q := WE.lst hl fun s news n I F N L m2 hL =>
  wpAny_pyIter_list hL (I.pushed (o := .itl l 0) F N L rfl ⟨rfl, rfl⟩ h)
theorem we_iterD {d : Addr} {fs : List (Str × Value)} {ep : Nat} {Q : Value → AH → Prop} (hd : H d = some (.dct fs ep)) (hn : (fs.map (·.1)).Nodup) (h : ∀ it, H it = none → Q (.ref it) (H.put it (.itd d 0 fs.length ep))) : WE c (pyIter (.ref d)) m H Q := WE.dct hd hn fun s news ob I F N L m2 hD lo =>
  wpAny_pyIter_dict lo hD (I.pushed (o := .itd d 0 fs.length ep) F N L rfl ⟨rfl, rfl⟩ h)

/-! ## loops -/
noncomputable def Turn (c : Cx K) (J : Loc → AH → Prop) (Q : Flow → Loc → AH → Prop) : Flow → Loc → AH → Prop
  | .next, m, H => J m H
  | .cont, m, H => J m H
  | .brk, m, H => Q .next m H
  | .ret v, m, H => Q (.ret v) m H
theorem turn_less {i n : Nat} (h : i < n) : n + 1 - (i + 1) < n + 1 - i := by omega
theorem loop_run {x : Str} {px : Pos} {body : List Stmt} {it : Addr} {n : Nat} {st : Nat → AO} {side : AH → Prop} {P : Nat → Value → Prop} {sc : Scope} {cl : List (Str × Addr)} {s : Shared} {R : Result → Shared → Prop}
    (e : EnvIs c sc cl c.L) (hk : kindIs sc x .local = true) (D : Drives c it n st side P) (J : Nat → Loc → AH → Prop) (Q : Flow → Loc → AH → Prop)
    (at_ : ∀ i m H, J i m H → H it = some (st i) ∧ side H)
    (step : ∀ i v m1 H1, i < n → P i v → J i m1 H1 → WS c (execs body c.env) ((x, v) :: m1) (H1.put it (st (i + 1))) (Turn c (J (i + 1)) Q))
    (fin : ∀ m1 H1, J n m1 H1 → Q .next m1 (H1.del it))
    (I : Inv c m H s) (h0 : J 0 m H) (hR : ∀ f s', PS c Q f s' → R (.ok f) s') : codeAny (model c.prog c.w) c.A (.forLoop (.Name x px) (.ref it) body [] c.env) R s := by
  refine codeAny_forLoop (fun k s' => ∃ i m' H', Inv c m' H' s' ∧ J i m' H' ∧ i ≤ n ∧ k = n + 1 - i) ?_ (n + 1) ⟨0, m, H, I, h0, Nat.zero_le _, rfl⟩
  intro k s' X
  obtain ⟨i, m', H', I', hJ, hi, rfl⟩ := X
  have A := at_ i m' H' hJ
  by_cases hlt : i < n
  · refine (D.item i m' H' hlt A.1 A.2).seqN I' fun r H1 s1 I1 X => ?_
    obtain ⟨v, rfl, hP, rfl⟩ := X
    refine wpAny_assign_Name (storeAt e hk I1 fun s2 I2 => (step i v m' H' hlt hP hJ).seqN I2 fun f m2 H2 s2 I2 q => ?_)
    cases f with
    | next => exact ⟨n + 1 - (i + 1), turn_less hlt, i + 1, m2, H2, I2, q, hlt, rfl⟩
    | cont => exact ⟨n + 1 - (i + 1), turn_less hlt, i + 1, m2, H2, I2, q, hlt, rfl⟩
    | brk => exact hR _ _ (ps I2 q)
    | ret v => exact hR _ _ (ps I2 q)
  · obtain rfl : i = n := Nat.le_antisymm hi (Nat.le_of_not_lt hlt)
    refine (D.done m' H' A.1 A.2).seqN I' fun r H1 s1 I1 X => ?_
    obtain ⟨rfl, rfl⟩ := X
    exact wpAny_execs_nil (hR _ _ (ps I1 (fin m' H' hJ)))
theorem ws_for {x : Str} {px pos : Pos} {iter : Expr} {body : List Stmt} {sc : Scope} {cl : List (Str × Addr)} {Q : Flow → Loc → AH → Prop} (e : EnvIs c sc cl c.L) (hk : kindIs sc x .local = true)
    (h : WE c (eval iter c.env) m H fun v H1 => WE c (pyIter v) m H1 fun itv H2 => ∃ it n st side P, ∃ J : Nat → Loc → AH → Prop, itv = .ref it ∧ Drives c it n st side P ∧ (∀ i m H, J i m H → H it = some (st i) ∧ side H) ∧ J 0 m H2 ∧
      (∀ i v m1 H1, i < n → P i v → J i m1 H1 → WS c (execs body c.env) ((x, v) :: m1) (H1.put it (st (i + 1))) (Turn c (J (i + 1)) Q)) ∧
      ∀ m1 H1, J n m1 H1 → Q .next m1 (H1.del it))
    (hs : ∀ x, foldedSetIterable iter c.env x = pure x) : WS c (exec (.For (.Name x px) iter body [] pos) c.env) m H Q := fun s I => by
  refine wpAny_For (h.seq I fun v H1 s1 I1 h1 => h1.seq I1 fun itv H2 s2 I2 X => ?_) hs
  obtain ⟨it, n, st, side, P, J, rfl, D, at_, h0, step, fin⟩ := X
  exact loop_run e hk D J Q at_ step fin I2 h0 fun f s' h' => h'
end Mine
namespace Mine
variable {K : Params → Frag} {c : Cx K} {m : Loc} {H : AH}

/-! ## comprehensions -/
noncomputable def closeL (cells : List (Str × Addr)) : List (Str × NameKind) → List (Str × Addr) → Option (List (Str × Addr))
  | [], acc => some acc
  | (x, k) :: r, acc => if k == .free then (cells.lookup x).bind fun a => closeL cells r ((x, a) :: acc) else closeL cells r acc
theorem closure_go {env : Env} : ∀ (names : List (Str × NameKind)) (acc cl : List (Str × Addr)), closeL env.cells names acc = some cl →
    (forIn names acc fun (x : Str × NameKind) (cs : List (Str × Addr)) => (if (x.2 == NameKind.free) = true then do let a ← cellOf env x.1; pure (ForInStep.yield ((x.1, a) :: cs)) else pure (ForInStep.yield cs) : Sem (ForInStep (List (Str × Addr))))) = (pure cl : Sem _)
  | [], acc, cl, h => by
    cases h; rfl
  | (x, k) :: r, acc, cl, h => by
    unfold closeL at h
    rw [List.forIn_cons]
    cases hk : k == NameKind.free with
    | true =>
      rw [hk] at h
      simp only [if_true] at h ⊢
      obtain ⟨a, h1, h2⟩ := Option.bind_eq_some_iff.mp h
      have e : cellOf env x = pure a := by unfold cellOf; rw [h1]
      rw [e]
      exact closure_go r _ cl h2
    | false =>
      rw [hk] at h
      simp only [Bool.false_eq_true, if_false] at h ⊢
      exact closure_go r _ cl h
theorem closure_of {scope : Scope} {env : Env} {cl : List (Str × Addr)} (h : closeL env.cells scope.names [] = some cl) : closureFor scope env = pure cl := by
  have := closure_go scope.names [] cl h
  unfold closureFor
  simp only [bind_pure]
  refine Eq.trans ?_ this
  rfl

/-- the frame of a comprehension -/
noncomputable abbrev Cx.comp (c : Cx K) (scope : Scope) (cl : List (Str × Addr)) (D : Addr) : Cx K := { c with env := compEnvC scope cl D c.env }
noncomputable def relabelS (scope sc : Scope) : Scope :=
  { scope with names := scope.names.map fun (n, k) => if (k == .free && sc.kind == .function && sc.names.lookup n == some .cell) then (n, .cell) else (n, k) }
theorem comp_env {sc scope : Scope} {cl0 cl : List (Str × Addr)} {L0 D : Addr} (e : EnvIs c sc cl0 L0) : EnvIs (c.comp scope cl D) (relabelS scope sc) cl D :=
  ⟨by show relabel scope c.env = _; unfold relabel relabelS Env.kindOf; rw [e.scope], rfl, rfl, e.globals, e.builtins⟩
theorem Inv.comp {scope : Scope} {cl : List (Str × Addr)} {D : Addr} {s : Shared} (I : Inv c m H s) : Inv (c.comp scope cl D) m H s := ⟨I.ex, I.rest⟩
theorem Inv.uncomp {scope : Scope} {cl : List (Str × Addr)} {D : Addr} {s : Shared} (I : Inv (c.comp scope cl D) m H s) : Inv c m H s := ⟨I.ex, I.rest⟩

theorem we_append {l : Addr} {vs : List Value} {v : Value} {Q : Value → AH → Prop} (hl : H l = some (.lst vs)) (hz : vs.length ≤ 16000000) (h : Q .none (H.put l (.lst (vs ++ [v])))) : WE c (call (.builtin "list.append") [.ref l, v]) m H Q := WE.lst hl fun s news n I F N L m1 hL =>
  append_at (hsz := big hz) (N.get m1) fun h' hs ho' => I.turned (o' := .lst (vs ++ [v])) F N L hl m1 rfl hs ho' ⟨n + 1, by rw [List.push_toArray]⟩ h

/-- a name of a comprehension is stored -/
theorem comp_store {x : Str} {v : Value} {scope sc : Scope} {cl0 cl : List (Str × Addr)} {D L0 : Addr} {fs : List (Str × Value)} {s : Shared} {R : Unit → Shared → Prop} {E : Value → Shared → Prop} (e : EnvIs c sc cl0 L0) (hk : kindIs (relabelS scope sc) x .local = true) (I : Inv c m H s) (hD : H D = some (.ns fs))
    (h : ∀ s', Inv c m (H.put D (.ns ((x, v) :: fs))) s' → R () s') : wpAny (model c.prog c.w) c.A (storeName (compEnvC scope cl D c.env) x v) R E s := by
  have k := named (comp_env (cl := cl) (D := D) e) hk
  obtain ⟨news, F, N, L⟩ := I.ex
  obtain ⟨o1, m1, _⟩ := (L _ _ hD).shape rfl
  refine wpAny_storeName_local (env := (c.comp scope cl D).env) k.2.1 (L.ns N hD) (fun h' hn hsb => ?_) (notClass k.1)
  rw [lookup_set] at hn
  obtain ⟨o', es, ep, ho', hd', hk', hf'⟩ := hn
  exact h _ (I.turnedI (o' := .ns ((x, v) :: fs)) F N L hD m1 rfl hsb ho' ⟨es, ep, hd', hk', hf'⟩)

/-- an iterator is its own iterator -/
structure Selfs (c : Cx K) (it : Addr) (st : AO) : Prop where
  self : ∀ m H, H it = some st → WE c (pyIter (.ref it)) m H fun r H' => r = .ref it ∧ H' = H
theorem self_list {it l : Addr} {i : Nat} : Selfs c it (.itl l i) := ⟨fun m H hit => WE.of fun s news I F N L => by
  obtain ⟨o1, m1, c1, d1⟩ := (L _ _ hit).shape rfl
  exact wpAny_pyIter_listiter ⟨o1, N.get m1, c1, d1⟩ (pq I ⟨rfl, rfl⟩)⟩
theorem self_dict {it d : Addr} {i n ep : Nat} : Selfs c it (.itd d i n ep) := ⟨fun m H hit => WE.of fun s news I F N L => by
  obtain ⟨o1, m1, c1, d1⟩ := (L _ _ hit).shape rfl
  exact wpAny_pyIter_keyiter ⟨o1, N.get m1, c1, d1⟩ (pq I ⟨rfl, rfl⟩)⟩
theorem self_range {it : Addr} {n : Nat} : Selfs c it (.itr ((0 : Nat) : Int) ((n : Int) - ((0 : Nat) : Int))) := ⟨fun m H hit => WE.of fun s news I F N L => by
  obtain ⟨o1, m1, rfl⟩ := (L _ _ hit).shape rfl
  exact (Walks.range (prog := c.prog) (w := c.w) c.hand it 0 1 n).self 0 _ _ _ (by simpa using N.get m1) (pq I ⟨rfl, rfl⟩)⟩

/-- the block of a comprehension is opened -/
theorem comp_open {scope : Scope} {cl : List (Str × Addr)} {s : Shared} {R : Env → Shared → Prop} (hcell : ∀ y ∈ scope.names, y.2 ≠ .cell) (hkind : scope.kind = .function) (I : Inv c m H s)
    (h : ∀ D s', H D = none → Inv c m (H.put D (.ns [])) s' → ∀ env' : Env, env'.locals = D → { env' with scope := relabel scope c.env } = compEnvC scope cl D c.env → R env' s') :
    wpAny (model c.prog c.w) c.A (newFunctionEnv scope c.env.globals cl [] c.env.qual none .none (some c.env)) R EF s := by
  obtain ⟨news, F, N, L⟩ := I.ex
  have fr : H s.heap.objs.size = none := L.fresh (below_size N)
  have nL : s.heap.objs.size ≠ c.L := Nat.ne_of_gt F.ns.lt
  have n0 : c.h₀.get? s.heap.objs.size = none := by
    cases q : c.h₀.get? s.heap.objs.size with
    | none => rfl
    | some o' => exact absurd (Heap.lt_size (F.keep _ _ q)) (Nat.lt_irrefl _)
  refine wpAny_newFunctionEnv hcell (by intro y hy; cases hy) (fun h₁ hns hsb => ?_) hkind
  obtain ⟨o, es, ep, ho, hd, hk, hf⟩ := id hns
  refine h s.heap.objs.size _ fr (I.heap ((F.push _).change hsb nL n0) (fun p hp => ?_) (L.push (o := .ns []) fr ⟨es, ep, hd, hk, hf⟩)) _ rfl rfl
  rcases List.mem_cons.mp hp with rfl | hp
  · exact ⟨ho, nL, n0⟩
  · exact ⟨(hsb.2 _ (Nat.ne_of_lt (below_size N p hp))).trans (Heap.get?_push_of_some _ (N p hp).1), (N p hp).2⟩
theorem del_some {H : AH} {a d : Addr} {o : AO} (h : H d = some o) (hne : d ≠ a) : (H.del a) d = some o := (del_ne hne).trans h
theorem Inv.dropNs {D : Addr} {fs : List (Str × Value)} {s : Shared} {h' : Heap} (I : Inv c m H s) (hD : H D = some (.ns fs)) (hs : Heap.SameBut D s.heap h') : Inv c m (H.del D) { s with heap := h' } := by
  obtain ⟨news, F, N, L⟩ := I.ex
  obtain ⟨o1, m1, _⟩ := (L _ _ hD).shape rfl
  exact I.dropped F N L hD m1 rfl hs.extBut
noncomputable def compNames (scope : Scope) : Bool := scope.names.all fun x => x.2 != .cell && (x.2 != .local || scope.names.lookup x.1 == some .local)
theorem compNames_of {scope : Scope} (h : compNames scope = true) : (∀ y ∈ scope.names, y.2 ≠ .cell) ∧ ∀ x ∈ scope.names, x.2 = .local → scope.names.lookup x.1 = some .local := by
  refine ⟨fun y hy e => ?_, fun x hx e => ?_⟩
  · have := List.all_eq_true.mp h y hy
    rw [e] at this; simp at this
  · have := List.all_eq_true.mp h x hx
    rw [e] at this; simpa using this
/-- all of a comprehension but its turns -/
noncomputable def Block (c : Cx K) (ex : Expr) (scope : Scope) (cl : List (Str × Addr)) (m : Loc) (ao : Nat → AO) (itv : Value) (H2 : AH) (Q : Addr → AH → Prop) : Prop :=
  ∃ it, itv = .ref it ∧ (H2 it).isSome = true ∧ ∀ acc ea D, H2 acc = none → H2 D = none → acc ≠ D → D ≠ it → ∀ s (R : Result → Shared → Prop), Inv c m ((H2.put acc (ao ea)).put D (.ns [])) s → (∀ H5 s5 fs, H5 D = some (.ns fs) → Q acc (H5.del D) → Inv c m H5 s5 → R (.ok .next) s5) →
    codeAny (model c.prog c.w) c.A (.compStart ex 0 (.ref it) (.ref acc) (compEnvC scope cl D c.env)) R s
structure CompSc (c : Cx K) (sc scope : Scope) (cl0 cl : List (Str × Addr)) (L0 : Addr) (iter : Expr) : Prop where
  env : EnvIs c sc cl0 L0
  close : closeL cl0 scope.names [] = some cl
  names : compNames scope = true
  kind : scope.kind = .function
  fold : ∀ v, foldedSetIterable iter c.env v = pure v
theorem block_all {ex tgt iter : Expr} {ifs : List Expr} {scope sc : Scope} {cl0 cl : List (Str × Addr)} {L0 : Addr} {pos : Pos} {s : Shared} {ao : Nat → AO} {newAcc : Sem Value} {use : Option (Value → Sem Unit)} {Q : Addr → AH → Prop} {Qp : Value → Shared → Prop}
    (e : CompSc c sc scope cl0 cl L0 iter) (hc : clausesOf ex = [⟨tgt, iter, ifs, 0⟩]) (hnew : ∀ H2 : AH, WE c newAcc m H2 fun v H3 => ∃ acc ea, v = .ref acc ∧ H2 acc = none ∧ H3 = H2.put acc (ao ea)) (I : Inv c m H s)
    (h : WE c (eval iter c.env) m H fun v H1 => WE c (pyIter v) m H1 fun itv H2 => Block c ex scope cl m ao itv H2 Q)
    (hpost : ∀ acc D H5 s5 fs, H5 D = some (.ns fs) → Q acc (H5.del D) → Inv c m H5 s5 → compPost (model c.prog c.w) c.A EF use Qp (.ref acc) D (.ok .next) s5) :
    wpAny (model c.prog c.w) c.A (comprehension ex scope c.env pos newAcc false (eval iter c.env) use) Qp EF s := by
  have n := compNames_of e.names
  refine wpAny_comprehension_free hc e.fold (closure_of (by rw [e.env.cells]; exact e.close)) e.kind n.2 (h.seq I fun v H1 s1 I1 h1 => h1.seq I1 fun itv H2 s2 I2 X => (hnew H2).seq I2 fun v s3 H3 I3 Y => ?_)
  obtain ⟨it, rfl, his, run⟩ := X
  obtain ⟨acc, ea, rfl, hacc, rfl⟩ := Y
  refine comp_open n.1 e.kind I3 fun D s4 hD I4 env' eD eE => ?_
  rw [eE, eD]
  have hDa : acc ≠ D := by rintro rfl; rw [put_self] at hD; cases hD
  have hD2 : H2 D = none := by rw [put_ne (Ne.symm hDa)] at hD; exact hD
  exact run acc ea D hacc hD2 hDa (by rintro rfl; rw [hD2] at his; cases his) s4 _ I4 fun H5 s5 fs a b c => hpost acc D H5 s5 fs a b c
theorem we_comp {ex tgt iter : Expr} {ifs : List Expr} {scope sc : Scope} {cl0 cl : List (Str × Addr)} {L0 : Addr} {pos : Pos} {ao : Nat → AO} {newAcc : Sem Value} {Q : Value → AH → Prop}
    (e : CompSc c sc scope cl0 cl L0 iter) (hc : clausesOf ex = [⟨tgt, iter, ifs, 0⟩]) (hnew : ∀ H2 : AH, WE c newAcc m H2 fun v H3 => ∃ acc ea, v = .ref acc ∧ H2 acc = none ∧ H3 = H2.put acc (ao ea))
    (h : WE c (eval iter c.env) m H fun v H1 => WE c (pyIter v) m H1 fun itv H2 => Block c ex scope cl m ao itv H2 fun a H5 => Q (.ref a) H5) : WE c (comprehension ex scope c.env pos newAcc false (eval iter c.env) none) m H Q := fun s I =>
  block_all e hc hnew I h fun acc D H5 s5 fs hD q I5 => I5.ex.elim fun news X => ⟨_, X.2.2.ns X.2.1 hD, fun h' hs' => pq (I5.dropNs hD hs') q⟩
theorem new_lst (H2 : AH) : WE c (newList []) m H2 fun v H3 => ∃ acc, ∃ _ : Nat, v = .ref acc ∧ H2 acc = none ∧ H3 = H2.put acc (.lst []) := we_newList (Nat.zero_le _) fun a ha => ⟨a, 0, rfl, ha, rfl⟩

/-- the turns of a list comprehension -/
noncomputable def CompOk (c : Cx K) (x : Str) (elt : Expr) (scope : Scope) (cl : List (Str × Addr)) (m : Loc) (itv : Value) (H : AH) (Q : Addr → AH → Prop) : Prop :=
  ∃ it n st side P, itv = .ref it ∧ (H it).isSome = true ∧ (∀ D, Drives (c.comp scope cl D) it n st side P) ∧ (∀ D, Selfs (c.comp scope cl D) it (st 0)) ∧
    ∀ acc D, H acc = none → H D = none → acc ≠ D → ∃ J : Nat → List Value → AH → Prop,
      (∀ i vs H, J i vs H → H it = some (st i) ∧ side H ∧ H acc = some (.lst vs) ∧ vs.length ≤ 1000 ∧ ∃ fs, H D = some (.ns fs)) ∧ J 0 [] ((H.put acc (.lst [])).put D (.ns [])) ∧
      (∀ i v vs H1 fs, i < n → P i v → J i vs H1 → H1 D = some (.ns fs) → WE (c.comp scope cl D) (eval elt (c.comp scope cl D).env) m ((H1.put it (st (i + 1))).put D (.ns ((x, v) :: fs))) fun y H4 => H4 acc = some (.lst vs) ∧ J (i + 1) (vs ++ [y]) (H4.put acc (.lst (vs ++ [y])))) ∧
      ∀ vs H1, J n vs H1 → Q acc ((H1.del it).del D)
theorem list_block {x : Str} {px : Pos} {elt iter : Expr} {scope sc : Scope} {cl0 cl : List (Str × Addr)} {L0 : Addr} {pos : Pos} {itv : Value} {Q : Addr → AH → Prop}
    (e : EnvIs c sc cl0 L0) (hk : kindIs (relabelS scope sc) x .local = true) (h : CompOk c x elt scope cl m itv H Q) : Block c (.ListComp elt [⟨.Name x px, iter, [], 0⟩] scope pos) scope cl m (fun _ => .lst []) itv H Q := by
  obtain ⟨it, n, st, side, P, rfl, his, Dr, Sf, ok⟩ := h
  refine ⟨it, rfl, his, fun acc ea D hacc hD hDa hne s R I hR => ?_⟩
  obtain ⟨J, at_, h0, step, fin⟩ := ok acc D hacc hD hDa
  have loop : ∀ s, Inv c m ((H.put acc (.lst [])).put D (.ns [])) s → codeAny (model c.prog c.w) c.A (.compLoop (.ListComp elt [⟨.Name x px, iter, [], 0⟩] scope pos) 0 (.ref it) (.ref acc) (compEnvC scope cl D c.env)) R s := fun s I => by
    refine codeAny_compLoop_list (fun k s' => ∃ i vs H', Inv c m H' s' ∧ J i vs H' ∧ i ≤ n ∧ k = n + 1 - i) (fun k s' X => ?_) (n + 1) ⟨0, [], _, I, h0, Nat.zero_le _, rfl⟩
    obtain ⟨i, vs, H', I', hJ, hi, rfl⟩ := X
    obtain ⟨hit, hs, hacc, hz, fs, hD⟩ := at_ i vs H' hJ
    by_cases hlt : i < n
    · refine ((Dr D).item i m H' hlt hit hs).seqN I'.comp fun r H1 s1 I1 X => ?_
      obtain ⟨v, rfl, hP, rfl⟩ := X
      refine wpAny_assign_Name (comp_store (v := v) e hk I1.uncomp ((put_ne hne).trans hD) fun s2 I2 => (step i v vs H' fs hlt hP hJ hD).seqN I2.comp fun y H4 s4 I4 X => ?_)
      exact (we_append (Q := fun _ H5 => J (i + 1) (vs ++ [y]) H5) X.1 (Nat.le_trans hz (Nat.le_of_ble_eq_true rfl)) X.2).seqN I4.uncomp fun _ H5 s5 I5 q => ⟨n + 1 - (i + 1), turn_less hlt, i + 1, _, H5, I5, q, hlt, rfl⟩
    · obtain rfl : i = n := Nat.le_antisymm hi (Nat.le_of_not_lt hlt)
      refine ((Dr D).done m H' hit hs).seqN I'.comp fun r H1 s1 I1 X => ?_
      obtain ⟨rfl, rfl⟩ := X
      exact hR _ s1 fs (del_some hD hne) (fin vs H' hJ) I1.uncomp
  refine codeAny_compStart_list (loop s I) (((Sf D).self m _ (at_ 0 [] _ h0).1).seqN I.comp fun r H1 s1 I1 X => ?_)
  obtain ⟨rfl, rfl⟩ := X
  exact loop s1 I1.uncomp
theorem we_listComp {x : Str} {px : Pos} {elt iter : Expr} {scope sc : Scope} {cl0 cl : List (Str × Addr)} {L0 : Addr} {pos : Pos} {Q : Value → AH → Prop}
    (e : CompSc c sc scope cl0 cl L0 iter) (hk : kindIs (relabelS scope sc) x .local = true)
    (h : WE c (eval iter c.env) m H fun v H1 => WE c (pyIter v) m H1 fun itv H2 => CompOk c x elt scope cl m itv H2 fun acc H3 => Q (.ref acc) H3) :
    WE c (eval (.ListComp elt [⟨.Name x px, iter, [], 0⟩] scope pos) c.env) m H Q :=
  we_comp e rfl new_lst (h.mono fun _ _ h1 => h1.mono fun _ _ h2 => list_block e.env hk h2)
theorem ws_assignComp {x y : Str} {px py : Pos} {elt iter : Expr} {scope sc : Scope} {cl0 cl : List (Str × Addr)} {pos spos : Pos} {Q : Flow → Loc → AH → Prop}
    (e : CompSc c sc scope cl0 cl c.L iter) (hk : kindIs (relabelS scope sc) x .local = true) (hy : kindIs sc y .local = true)
    (hsw : swapsWith (.ListComp elt [⟨.Name x px, iter, [], 0⟩] scope pos) (some (.Name y py)) spos.line c.env = pure true)
    (h : WE c (eval iter c.env) m H fun v H1 => WE c (pyIter v) m H1 fun itv H2 => CompOk c x elt scope cl m itv H2 fun acc H3 => Q .next ((y, .ref acc) :: m) H3) :
    WS c (exec (.Assign [.Name y py] (.ListComp elt [⟨.Name x px, iter, [], 0⟩] scope pos) spos) c.env) m H Q := fun s I => by
  rw [exec_Assign_Name_used _ _ _ _ hsw]
  refine wpAny_bind (wpAny_standAt (wpAny_bind ?_))
  show wpAny _ c.A (do let _ ← comprehension (.ListComp elt [⟨.Name x px, iter, [], 0⟩] scope pos) scope c.env _ (newList []) false (eval iter c.env) (some (assign (.Name y py) c.env))) _ _ s
  refine wpAny_bind (wpAny_mono (block_all (Qp := fun _ s' => PS c Q .next s') e rfl new_lst I (h.mono fun _ _ h1 => h1.mono fun _ _ h2 => list_block e.env hk h2) fun acc D H5 s5 fs hD q I5 => ?_) (fun _ s' hq => wpAny_pure (wpAny_pure hq)) fun _ _ e => e)
  show wpAny _ c.A (assign (.Name y py) c.env (.ref acc)) _ _ _
  exact wpAny_assign_Name (storeAt e.env hy I5 fun s6 I6 => I6.ex.elim fun news X => ⟨_, X.2.2.ns X.2.1 hD, fun h' hs' => ps (I6.dropNs hD hs') q⟩)
end Mine
namespace Mine
variable {K : Params → Frag} {c : Cx K} {m : Loc} {H : AH} {Q : Value → AH → Prop}

theorem Led.listAt {P : Params} {news : List (Addr × Obj)} {h₀ h : Heap} {L l : Addr} {vs : List Value} (l' : Led P news H) (N : News h₀ L h news) (hl : H l = some (.lst vs)) : ∃ n, (l, W.listOf vs.toArray n) ∈ news ∧ h.get? l = some (W.listOf vs.toArray n) ∧ h.IsList l vs.toArray := by
  obtain ⟨o1, m1, n1, rfl⟩ := (l' _ _ hl).shape rfl
  exact ⟨n1, m1, N.get m1, ⟨_, N.get m1, rfl, _, rfl⟩⟩
theorem Led.tupAt {P : Params} {news : List (Addr × Obj)} {h₀ h : Heap} {L l : Addr} {vs : List Value} (l' : Led P news H) (N : News h₀ L h news) (hl : H l = some (.tup vs)) : ∃ n, (l, tupOf vs n) ∈ news ∧ IsTup h l vs.toArray := by
  obtain ⟨o1, m1, n1, rfl⟩ := (l' _ _ hl).shape rfl
  exact ⟨n1, m1, ⟨_, N.get m1, rfl, _, rfl⟩⟩

/-! ## methods of lists -/
theorem we_mList {l : Addr} {vs : List Value} {nm : Str} {id : String} {pl : Sem Bool} {Q : Value × List Value → AH → Prop} (hl : H l = some (.lst vs)) (hs : Slot "list" nm id) (ht : typeOf (.builtin id) = pure (.type "method_descriptor")) (h : Q (.builtin id, [.ref l]) H) : WE c (getMethod (.ref l) nm pl) m H Q := WE.lst hl fun s news n I F N L m1 hL =>
  getMethod_builtin hL.typeIs PySem.F.plainAttrs_list hs ht (fun a e => by cases e; exact ⟨_, N.get m1, rfl⟩) (pq I h)
theorem we_mPop {l : Addr} {vs : List Value} {pl : Sem Bool} {Q : Value × List Value → AH → Prop} (hl : H l = some (.lst vs)) (h : Q (.builtin "list.pop", [.ref l]) H) : WE c (getMethod (.ref l) (Str.ofString "pop") pl) m H Q := we_mList hl PySem.F.slot_list_pop PySem.F.type_list_pop h
theorem we_mAppend {l : Addr} {vs : List Value} {pl : Sem Bool} {Q : Value × List Value → AH → Prop} (hl : H l = some (.lst vs)) (h : Q (.builtin "list.append", [.ref l]) H) : WE c (getMethod (.ref l) (Str.ofString "append") pl) m H Q := we_mList hl PySem.F.slot_list_append PySem.F.type_list_append h
theorem we_mReverse {l : Addr} {vs : List Value} {pl : Sem Bool} {Q : Value × List Value → AH → Prop} (hl : H l = some (.lst vs)) (h : Q (.builtin "list.reverse", [.ref l]) H) : WE c (getMethod (.ref l) (Str.ofString "reverse") pl) m H Q := we_mList hl PySem.F.slot_list_reverse PySem.F.type_list_reverse h
theorem pop_last (vs : List Value) (y : Value) : (vs ++ [y]).toArray.pop = vs.toArray := by simp
theorem we_pop {l : Addr} {vs : List Value} {y : Value} (hl : H l = some (.lst (vs ++ [y]))) (hz : (vs ++ [y]).length ≤ 16000000) (h : Q y (H.put l (.lst vs))) : WE c (call (.builtin "list.pop") [.ref l]) m H Q := WE.lst hl fun s news n I F N L m1 hL =>
  Copied.pop_at (y := y) (hsz := big hz) (N.get m1) (by simp) fun h' hs ho' => I.turned (o' := .lst vs) F N L hl m1 rfl hs ho' ⟨n + 1, by rw [pop_last]⟩ h
theorem mapSeq_same {f : Array Value → Array Value} {xs ys : Array Value} {n : Nat} (e : f xs = ys) (z : ys.size = xs.size) : Obj.mapSeq f (W.listOf xs n) = W.listOf ys n := by
  subst e
  show ({ cls := .type "list", dict := none, data := .seq (f xs) (if ((f xs).size == xs.size) = true then n else n + 1), slots := #[] } : Obj) = _
  rw [if_pos (by simpa using z)]
theorem seq_turned {s : Shared} {l : Addr} {α : Type} {v : α} {Q : α → AH → Prop} {news : List (Addr × Obj)} {f : Array Value → Array Value} {vs ws : List Value} {n : Nat} (I : Inv c m H s) (F : Fr c.h₀ c.L s.heap (nm m)) (N : News c.h₀ c.L s.heap news) (L : Led c.w.params news H) (hl : H l = some (.lst vs)) (m1 : (l, W.listOf vs.toArray n) ∈ news)
    (e : f vs.toArray = ws.toArray) (z : ws.length = vs.length) (h : Q v (H.put l (.lst ws))) : PQ c m Q v { s with heap := s.heap.update l (Obj.mapSeq f) } :=
  I.turned (o' := .lst ws) F N L hl m1 rfl (Heap.SameBut.update ..) ((Heap.get?_update_self _ (N.get m1) (by rw [mapSeq_same e z]; rfl)).trans (congrArg some (mapSeq_same e z))) shLst h
theorem we_reverse {l : Addr} {vs : List Value} (hl : H l = some (.lst vs)) (hz : vs.length ≤ 16000000) (h : Q .none (H.put l (.lst vs.reverse))) : WE c (call (.builtin "list.reverse") [.ref l]) m H Q := WE.lst hl fun s news n I F N L m1 hL =>
  call_meets PySem.F.slot_list_reverse hL.typeIs PySem.F.entry_list_reverse (PySem.F.args_list_reverse_1 _) (AutoListH.list_reverse_list_0 l vs.toArray n (big hz)) ⟨N.get m1, seq_turned I F N L hl m1 List.reverse_toArray List.length_reverse h⟩

/-! ## lengths, ranges -/
theorem we_lenL {l : Addr} {vs : List Value} (hl : H l = some (.lst vs)) (hz : vs.length ≤ 16000000) (h : ∀ t, Q (.int vs.length t) H) : WE c (call (.builtin "len") [.ref l]) m H Q := WE.lst hl fun s news n I F N L m1 hL =>
  len_list hL (Int.lt_of_le_of_lt (Int.ofNat_le.mpr hz) (by decide)) (pq (I.toks _) (h _))
theorem we_lenD {d : Addr} {fs : List (Str × Value)} {ep : Nat} (hd : H d = some (.dct fs ep)) (hn : (fs.map (·.1)).Nodup) (hz : fs.length ≤ 16000000) (h : ∀ t, Q (.int fs.length t) H) : WE c (call (.builtin "len") [.ref d]) m H Q := WE.dct hd hn fun s news ob I F N L m1 hD lo =>
  call_len_dict lo hD.dictOf (Int.lt_of_le_of_lt (Int.ofNat_le.mpr hz) (by decide)) (pq (I.toks _) (h _))
theorem we_range {n : Int} {t : Tok} (h : ∀ a, H a = none → Q (.ref a) (H.put a (.rng n))) : WE c (call (.type "range") [.int n t]) m H Q := WE.of fun s news I F N L =>
  call_range_1 (I.pushed (o := .rng n) F N L rfl ⟨_, _, _, rfl⟩ h)
theorem range_size (n : Nat) : Builtin.Range.rangeSize 0 (n : Int) 1 = (n : Int) := by
  unfold Builtin.Range.rangeSize
  split <;> (try split) <;> omega
theorem we_iterR {r : Addr} {n : Nat} (hr : H r = some (.rng n)) (hz : n ≤ 1000000) (h : ∀ it, H it = none → Q (.ref it) (H.put it (.itr ((0 : Nat) : Int) ((n : Int) - ((0 : Nat) : Int))))) : WE c (pyIter (.ref r)) m H Q := WE.of fun s news I F N L => by
  obtain ⟨o1, m1, t, u, v, rfl⟩ := (L _ _ hr).shape rfl
  refine wpAny_pyIter_range (N.get m1) (small_one (by omega) (by omega) (by omega) (by omega)) ?_
  rw [range_size]
  exact I.pushed (o := .itr ((0 : Nat) : Int) ((n : Int) - ((0 : Nat) : Int))) F N L rfl (by show _ = _; simp) h
end Mine
namespace Mine
variable {K : Params → Frag} {c : Cx K} {m : Loc} {H : AH} {Q : Value → AH → Prop}

/-! ## isinstance -/
theorem we_isiT {a C : Addr} {fs : List (Str × Value)} (ha : H a = some (.inst C fs)) (hi : isIn (K c.w.params) (.ref C) C = true) (h : Q (.bool true) H) : WE c (call (.builtin "isinstance") [.ref a, .ref C]) m H Q := WE.ins ha fun s news dx es n I F N L h1 h2 h3 h4 IA =>
  isi_call (t := .ref C) I.k (fun M => IA.type) hi (by intro e; cases e) (pq I h)
noncomputable def isNo (K : Frag) (D C : Addr) : Bool := kin_not K D C && (plainGet K D "__class__" && (hasDictIn K D && (findIn K (.ref D) "__class__" == some (some (.builtin "object.__class__")) && (specialIn K (.builtin "object.__class__") "__get__" == some (some (.builtin "getset_descriptor.__get__")) && (takesIn K (.builtin "object.__class__") == some true && mroIn K D (.type "object") == some true)))))
theorem we_isiF {a D C : Addr} {fs : List (Str × Value)} (ha : H a = some (.inst D fs)) (hi : isNo (K c.w.params) D C = true) (h : Q (.bool false) H) : WE c (call (.builtin "isinstance") [.ref a, .ref C]) m H Q := WE.ins ha fun s news dx es n I F N L h1 h2 h3 h4 IA => by
  simp only [isNo, Bool.and_eq_true, beq_iff_eq] at hi
  exact kin_callC I.k IA hi.1 hi.2.1 hi.2.2.1 hi.2.2.2.1 hi.2.2.2.2.1 hi.2.2.2.2.2.1 hi.2.2.2.2.2.2 (pq (I.toks _) h)

/-! ## None -/
theorem we_isNone {v : Value} (h : Q (.bool (v == .none)) H) : WE c (compareOp .Is v .none) m H Q := fun s I => by
  by_cases e : v = .none
  · subst e; exact is_none_none (pq I h)
  · rw [beq_eq_false_iff_ne.mpr e] at h; exact is_none_ne e (pq I h)
theorem we_isNotNone {v : Value} (h : Q (.bool (!(v == .none))) H) : WE c (compareOp .IsNot v .none) m H Q := fun s I =>
  PySem.isNot_none (pq I h)

/-! ## items -/
theorem we_sub {value slice : Expr} {pos : Pos} (h : WE c (eval value c.env) m H fun o H1 => WE c (eval slice c.env) m H1 fun i H2 => WE c (subscriptTail value slice o i) m H2 Q) : WE c (eval (.Subscript value slice pos) c.env) m H Q := fun _ I =>
  Subscript_ (h.seq I fun _ _ _ I1 h1 => h1.seq I1 fun _ _ s2 I2 h2 => h2 s2 I2)
theorem we_any {value value' slice : Expr} {o i : Value} {s : Shared} (hv : ∀ r, letTemporaryGo value' o r = pure ()) (h : wpAny (model c.prog c.w) c.A (subscriptTail value' slice o i) (PQ c m Q) EF s) : wpAny (model c.prog c.w) c.A (subscriptTail value slice o i) (PQ c m Q) EF s := kba_turn hv h
noncomputable abbrev anyName : Expr := .Name (Str.ofString "_") ⟨0, 0, 0, 0⟩
theorem int_lt {j n : Nat} {k : Int} (e : k = j) (h : j < n) (hz : n ≤ 16000000) : k < 2 ^ 63 := by omega
theorem we_itemL {value slice : Expr} {l : Addr} {vs : List Value} {k : Int} {j : Nat} {u : Tok} {x : Value} (hl : H l = some (.lst vs)) (e : k = j) (hx : vs[j]? = some x) (hz : vs.length ≤ 16000000) (h : Q x H)
    (hs : subscripted slice false (.ref l) (.int k u) = operate [.ref l, .int k u] (getItem (.ref l) (.int k u))) : WE c (subscriptTail value slice (.ref l) (.int k u)) m H Q := WE.lst hl fun s news n I F N L m1 hL =>
  we_any (value' := anyName) (fun _ => rfl) (PyProof.Rows.item_list hL (by omega) (int_lt e (List.getElem?_eq_some_iff.mp hx).1 hz) (by subst e; exact List.getElem?_toArray.trans hx) (pq I h) hs fun r => rfl)
theorem neg_index (n : Nat) : seqIndex? (-1) (n + 1) = some n := by unfold seqIndex?; simp; omega
theorem we_itemBack {value slice : Expr} {l : Addr} {vs : List Value} {u : Tok} {x : Value} (hl : H l = some (.lst (vs ++ [x]))) (h : Q x H)
    (hs : subscripted slice false (.ref l) (.int (-1) u) = operate [.ref l, .int (-1) u] (getItem (.ref l) (.int (-1) u))) : WE c (subscriptTail value slice (.ref l) (.int (-1) u)) m H Q := WE.lst hl fun s news n I F N L m1 hL =>
  kde_neg (j := vs.length) hL (by decide) (by decide) (by rw [List.length_append]; exact neg_index _) List.getElem?_concat_length (pq I h) hs
theorem nat_index {j n : Nat} {k : Int} (e : k = j) (h : j < n) : seqIndex? k n = some j := by unfold seqIndex?; split <;> (try split) <;> simp <;> omega
theorem we_itemT {value slice : Expr} {l : Addr} {vs : List Value} {k : Int} {j : Nat} {u : Tok} {x : Value} (hl : H l = some (.tup vs)) (e : k = j) (hx : vs[j]? = some x) (hz : vs.length ≤ 16000000) (h : Q x H)
    (hs : subscripted slice false (.ref l) (.int k u) = operate [.ref l, .int k u] (getItem (.ref l) (.int k u))) : WE c (subscriptTail value slice (.ref l) (.int k u)) m H Q := WE.of fun s news I F N L =>
  (L.tupAt N hl).elim fun n x =>
    have hlt := (List.getElem?_eq_some_iff.mp hx).1
    item_tupleT (j := j) x.2 (by omega) (int_lt e hlt hz) (nat_index e hlt) hx (pq I h) hs
theorem valueAt_is (fs : List (Str × Value)) (x : Str) : valueAt fs x = fs.lookup x := by
  unfold valueAt
  induction fs with
  | nil => rfl
  | cons p r ih =>
    obtain ⟨y, v⟩ := p
    rw [List.find?_cons, List.lookup_cons]
    by_cases e : y = x
    · subst e; simp
    · have e2 : (x == y) = false := by simpa using fun h => e h.symm
      simp only [e, decide_false, e2]
      exact ih
theorem we_itemD {value slice : Expr} {d : Addr} {fs : List (Str × Value)} {ep : Nat} {x : Str} {u : Tok} {v : Value} (hd : H d = some (.dct fs ep)) (hn : (fs.map (·.1)).Nodup) (hx : fs.lookup x = some v) (h : Q v H)
    (hs : subscripted slice false (.ref d) (.str x u) = operate [.ref d, .str x u] (getItem (.ref d) (.str x u))) : WE c (subscriptTail value slice (.ref d) (.str x u)) m H Q := WE.dct hd hn fun s news ob I F N L m1 hD lo =>
  we_any (value' := anyName) (fun _ => rfl) (subscriptTail_builtin hD.dictOf.typeIs slot_dict_getitem.lookup (wpAny_getItem_of (strKind_is c.prog c.w x u) hD.dictOf.mapOf ((valueAt_is fs x).trans hx) (pq (I.toks _) h)) hs fun r => rfl)
theorem we_inD {d : Addr} {fs : List (Str × Value)} {ep : Nat} {x : Str} {u : Tok} (hd : H d = some (.dct fs ep)) (hn : (fs.map (·.1)).Nodup) (h : Q (.bool (fs.lookup x).isSome) H) : WE c (compareOp .In (.str x u) (.ref d)) m H Q := WE.dct hd hn fun s news ob I F N L m1 hD lo =>
  wpAny_in_of (strKind_is c.prog c.w x u) lo hD.dictOf.mapOf (pq (I.toks _) ((valueAt_is fs x).symm ▸ h))
theorem we_notInD {d : Addr} {fs : List (Str × Value)} {ep : Nat} {x : Str} {u : Tok} (hd : H d = some (.dct fs ep)) (hn : (fs.map (·.1)).Nodup) (h : Q (.bool (!(fs.lookup x).isSome)) H) : WE c (compareOp .NotIn (.str x u) (.ref d)) m H Q := WE.dct hd hn fun s news ob I F N L m1 hD lo =>
  wpAny_notIn_of (strKind_is c.prog c.w x u) lo hD.dictOf.mapOf (pq (I.toks _) ((valueAt_is fs x).symm ▸ h))
/-- a text in a written tuple of texts -/
theorem we_inT {l : Addr} {vs : List Value} {ys : List Str} {x : Str} {u : Tok} (hl : H l = some (.tup vs)) (hy : StrsAre vs ys) (h : Q (.bool (ys.any (· == x))) H) : WE c (compareOp .In (.str x u) (.ref l)) m H Q := WE.of fun s news I F N L =>
  (L.tupAt N hl).elim fun n x => in_tuple_strs x.2 hy (pq I h)

/-! ## stores into lists and dicts -/
theorem ws_setItem {o i value : Expr} {pos' pos : Pos} {Q : Flow → Loc → AH → Prop} (hs : swapsWith value (some (.Subscript o i pos')) pos.line c.env = pure false)
    (h : WE c (eval value c.env) m H fun v H1 => WE c (eval o c.env) m H1 fun ov H2 => WE c (eval i c.env) m H2 fun iv H3 => WE c (PySem.setItem ov iv v) m H3 fun _ H4 => Q .next m H4) : WS c (exec (.Assign [.Subscript o i pos'] value pos) c.env) m H Q := fun s I =>
  wpAny_Assign_Subscript (h.seq I fun _ _ _ I1 h1 => h1.seq I1 fun _ _ _ I2 h2 => h2.seq I2 fun _ _ _ I3 h3 => h3.seq I3 fun _ _ _ I4 q => ps I4 q) hs
theorem set_toArray (vs : List Value) (j : Nat) (v : Value) : (fun x : Array Value => x.setIfInBounds j v) vs.toArray = (vs.set j v).toArray := List.setIfInBounds_toArray ..
theorem we_setL {l : Addr} {vs : List Value} {k : Int} {j : Nat} {u : Tok} {v : Value} {Q : Unit → AH → Prop} (hl : H l = some (.lst vs)) (e : k = j) (hk : j < vs.length) (hz : vs.length ≤ 16000000) (h : Q () (H.put l (.lst (vs.set j v)))) : WE c (setItem (.ref l) (.int k u) v) m H Q := WE.lst hl fun s news n I F N L m1 hL => by
  subst e
  exact ki_setAt (N.get m1) (Int.natCast_nonneg _) (int_lt rfl hk hz) (Int.ofNat_lt.mpr hk) (seq_turned I F N L hl m1 (set_toArray vs j v) List.length_set h)
theorem back_index (n : Nat) : ((-1 : Int) + ((n + 1 : Nat) : Int)).toNat = n := by omega
theorem we_setBack {l : Addr} {vs : List Value} {u : Tok} {x v : Value} {Q : Unit → AH → Prop} (hl : H l = some (.lst (vs ++ [x]))) (h : Q () (H.put l (.lst (vs ++ [v])))) : WE c (setItem (.ref l) (.int (-1) u) v) m H Q := WE.lst hl fun s news n I F N L m1 hL => by
  refine ki_setBack (N.get m1) (by decide) (by simp; omega) (by decide) ?_
  have e : ((-1 : Int) + ((vs ++ [x]).toArray.size : Nat)).toNat = vs.length := by
    rw [List.size_toArray, List.length_append]; exact back_index _
  rw [e]
  exact seq_turned I F N L hl m1 (ws := vs ++ [v]) ((set_toArray ..).trans (by simp)) (by simp) h
theorem dict_shape {prog : Program} {w : World} {ob : Obj} {fs : List (Str × Value)} (h : ob.IsDictOf (PySem.strKind prog w) fs) : ∃ ep, Shape w.params (.dct fs ep) ob := by
  obtain ⟨es, ep, ⟨e1, e2, e3⟩, hd, hk, hp, hn⟩ := h
  obtain ⟨cl, dd, dt, sl⟩ := ob
  simp only at e1 e2 e3 hd
  subst e1 e2 e3 hd
  refine ⟨ep, es.toList, rfl, ?_⟩
  have hk' : ∀ e ∈ es.toList, ∃ k, (PySem.strKind prog w).is k e.key = true ∧ e.hash = (PySem.strKind prog w).hash k := fun e he => hk e (by simpa using he)
  generalize es.toList = l at hp hk'
  clear hk hn
  induction hp with
  | nil => exact .nil
  | @cons e kv l kvs h1 h2 _ ih =>
    obtain ⟨hh, key, val⟩ := e
    obtain ⟨k, v⟩ := kv
    obtain ⟨k', q1, q2⟩ := hk' _ (.head _)
    obtain ⟨t, rfl⟩ := Value.isStrOf_shape h1
    have : k' = k := (PySem.strKind prog w).inj _ _ _ q1 h1
    subst this
    simp only at h2 q2
    subst h2 q2
    exact .cons (ih fun e he => hk' e (.tail _ he))
theorem dict_turned {s : Shared} {h' : Heap} {d : Addr} {fs gs : List (Str × Value)} {ep : Nat} {n : Nat} {ob : Obj} {news : List (Addr × Obj)} {α : Type} {v : α} {Q : α → AH → Prop} (I : Inv c m H s) (F : Fr c.h₀ c.L s.heap (nm m)) (N : News c.h₀ c.L s.heap news) (L : Led c.w.params news H) (hd : H d = some (.dct fs ep)) (m1 : (d, ob) ∈ news)
    (hm : h'.DictOf (PySem.strKind c.prog c.w) d gs) (hs : Heap.SameBut d s.heap h') (h : ∀ ep', Q v (H.put d (.dct gs ep'))) : PQ c m Q v { s with heap := h', toks := n } := by
  obtain ⟨o', ho', hd'⟩ := Heap.dictOf_iff.mp hm
  obtain ⟨ep', sh⟩ := dict_shape hd'
  exact I.turned (o' := .dct gs ep') F N L hd m1 rfl hs ho' sh (h ep')
theorem we_setD {d : Addr} {fs : List (Str × Value)} {ep : Nat} {x : Str} {u : Tok} {v : Value} {Q : Unit → AH → Prop} (hd : H d = some (.dct fs ep)) (hn : (fs.map (·.1)).Nodup) (hz : fs.length ≤ 16000000) (h : ∀ ep', Q () (H.put d (.dct (stored fs x v) ep'))) : WE c (setItem (.ref d) (.str x u) v) m H Q := WE.dct hd hn fun s news ob I F N L m1 hD lo =>
  wpAny_setItem_pairs (hsz := big hz) (strKind_is c.prog c.w x u) hD.dictOf fun h' hmm hs => dict_turned I F N L hd m1 hmm hs h
end Mine
namespace Mine
variable {K : Params → Frag} {c : Cx K} {m : Loc} {H : AH} {Q : Value → AH → Prop}

/-! ## statements of an expression -/
theorem ws_expr {e : Expr} {pos : Pos} {sc : Scope} {cl : List (Str × Addr)} {D : Addr} {Q : Flow → Loc → AH → Prop} (ev : EnvIs c sc cl D) (hk : (sc.kind == .module) = false) (hs : swapsWith e none pos.line c.env = pure false)
    (h : WE c (eval e c.env) m H fun v H' => v = .none ∧ Q .next m H') : WS c (exec (.Expr e pos) c.env) m H Q := fun s I =>
  wpAny_Expr (h.seq I fun v H' s' I' q => by
    obtain ⟨rfl, q⟩ := q
    exact ps I' q) (by unfold interactive; rw [ev.scope, hk]; rfl) hs

/-! ## more operations -/
theorem noPylong (a : Int) : Builtin.divisionGoesByPylong a 1024 = false := by
  unfold Builtin.divisionGoesByPylong
  have : (if ((1024 : Int) == 0) = true then 0 else (1024 : Int).natAbs.log2 / 30 + 1) = 1 := by decide
  simp only [this]
  rfl
theorem we_floorK {a : Int} {t u : Tok} (h : ∀ t, Q (.int (a.fdiv 1024) t) H) : WE c (binaryOp .FloorDiv (.int a t) (.int 1024 u)) m H Q := by
  unfold WE; intro s I; with_reducible refine floordiv_int (by decide) ?_ (.inl (noPylong a)); exact pq (I.toks _) (h _)
theorem we_negI {a : Int} {t : Tok} (h : ∀ t, Q (.int (-a) t) H) : WE c (unaryOp .USub (.int a t)) m H Q := by
  unfold WE; intro s I; with_reducible refine neg_int ?_; exact pq (I.toks _) (h _)
theorem we_addS {x y : Str} {t u : Tok} (hz : x.length + y.length ≤ 16000000) (h : ∀ t, Q (.str (x ++ y) t) H) : WE c (binaryOp .Add (.str x t) (.str y u)) m H Q := fun s I =>
  SBL.add (fun t' k _ => pq (I.toks _) (h _)) (big hz)
theorem we_addL {l b : Addr} {vs ws : List Value} (hl : H l = some (.lst vs)) (hb : H b = some (.lst ws)) (hz : vs.length + ws.length ≤ 16000000) (h : ∀ a, H a = none → Q (.ref a) (H.put a (.lst (vs ++ ws)))) : WE c (binaryOp .Add (.ref l) (.ref b)) m H Q := WE.lst hl fun s news n I F N L m1 hL =>
  (L.listAt N hb).elim fun n2 x => add_lists F N hL x.2.2 (fun h' F' N' => I.made L F' N' (below_size N) shLst h) (big hz)

/-! ## slices -/
noncomputable def LstAt (c : Cx K) (H : AH) (l : Addr) (vs : List Value) : Prop := H l = some (.lst vs) ∨ c.h₀.IsList l vs.toArray
theorem LstAt.is {l : Addr} {vs : List Value} {s : Shared} {news : List (Addr × Obj)} (h : LstAt c H l vs) (F : Fr c.h₀ c.L s.heap (nm m)) (N : News c.h₀ c.L s.heap news) (L : Led c.w.params news H) : s.heap.IsList l vs.toArray :=
  h.elim (fun h => (L.listAt N h).choose_spec.2.2) fun h => h.imp fun o x => ⟨F.keep _ _ x.1, x.2⟩
theorem pick_to (vs : List Value) (k : Int) (h0 : 0 ≤ k) : (slicePick vs.toArray none (some k) none) = (vs.take k.toNat).toArray := by
  have e : sliceBounds none (some k) none vs.toArray.size = (((0 : Nat) : Int), ((min k.toNat vs.length : Nat) : Int), 1) := by
    unfold sliceBounds
    have : ¬ k < 0 := by omega
    simp only [Option.getD_none, show (1 : Int) > 0 by decide, if_true, this, if_false, List.size_toArray]
    congr 1
    congr 1
    omega
  rw [kmk_pick_nat _ e]
  congr 1
  simp
theorem we_sliceTo {value upper : Expr} {p pos : Pos} (h : WE c (eval value c.env) m H fun o H1 => WE c (eval upper c.env) m H1 fun u H2 => ∃ l vs k t, o = .ref l ∧ u = .int k t ∧ 0 ≤ k ∧ vs.length ≤ 16000000 ∧ LstAt c H2 l vs ∧ ∀ a, H2 a = none → Q (.ref a) (H2.put a (.lst (vs.take k.toNat)))) :
    WE c (eval (.Subscript value (.Slice none (some upper) none p) pos) c.env) m H Q := fun _ I => by
  refine Subscript_ (h.seq I fun o H1 s1 I1 h1 => wpAny_Slice (evalPart_none_step (evalPart_some_step (h1.seq I1 fun u H2 s2 I2 h2 => evalPart_none_step ?_))))
  obtain ⟨l, vs, k, t, rfl, rfl, h0, hz, hl, h⟩ := h2
  obtain ⟨news, F, N, L⟩ := I2.ex
  refine kba_turn (value' := anyName) (fun _ => rfl) (kmk_slice F N (hl.is F N L) .none (.int k t) (fun D h' F' N' l1 => ?_) rfl (fun _ => rfl) (big hz))
  rw [pick_to vs k h0] at N'
  exact I2.made L F' N' l1 shLst h
theorem we_sliceRev {value step : Expr} {p pos : Pos} (h : WE c (eval value c.env) m H fun o H1 => WE c (eval step c.env) m H1 fun u H2 => ∃ l vs t, o = .ref l ∧ u = .int (-1) t ∧ vs.length ≤ 16000000 ∧ LstAt c H2 l vs ∧ ∀ a, H2 a = none → Q (.ref a) (H2.put a (.lst vs.reverse))) :
    WE c (eval (.Subscript value (.Slice none none (some step) p) pos) c.env) m H Q := fun _ I => by
  refine Subscript_ (h.seq I fun o H1 s1 I1 h1 => wpAny_Slice (evalPart_none_step (evalPart_none_step (evalPart_some_step (h1.seq I1 fun u H2 s2 I2 h2 => ?_)))))
  obtain ⟨l, vs, t, rfl, rfl, hz, hl, h⟩ := h2
  obtain ⟨news, F, N, L⟩ := I2.ex
  exact kba_turn (value' := anyName) (fun _ => rfl) (krv_lit (ops := [.ref l, .ref s2.heap.objs.size]) F N (hl.is F N L) (.int (-1) t) rfl (fun D h' F' N' l1 => I2.made L F' N' l1 shLst h) rfl (fun _ => rfl) (big hz))

/-! ## list(x), sorted(x) -/
theorem we_callT {T : String} {pos : Pos} {e : Expr} {rest : List Expr} (h : Args1 c pos (e :: rest) m H fun vs H1 => WE c (call (.type T) vs) m H1 Q)
    (he : starEach (e :: rest) c.env = (false, eval e c.env) :: starEach rest c.env) (hplain : (backTo pos (starEach rest c.env)).any (·.1) = false) : WE c (callWith pos (.type T) [] (backTo pos (starEach (e :: rest) c.env)) []) m H Q := fun _ I =>
  PyProof.Rows.callWith_type1 (WE.seq h I fun _ _ s' I' q => q s' I') he hplain
theorem we_listL {l : Addr} {vs : List Value} (hl : H l = some (.lst vs)) (hz : vs.length ≤ 16000000) (h : ∀ a, H a = none → Q (.ref a) (H.put a (.lst vs))) : WE c (call (.type "list") [.ref l]) m H Q := WE.lst hl fun s news n I F N L m1 hL =>
  kup_listOf F N m1 rfl (fun D k h' F' N' l1 => I.made L F' N' l1 shLst h) (big hz)
theorem strs_at : ∀ {vs : List Value} {ys : List Str}, vs.length = ys.length → (∀ (j : Nat) (v : Value), vs[j]? = some v → ∃ (y : Str) (t : Tok), ys[j]? = some y ∧ v = Value.str y t) → StrsAre vs ys
  | [], [], _, _ => .nil
  | v :: vs, y :: ys, hl, h => by
    obtain ⟨y', t, e1, e2⟩ := h 0 v rfl
    simp only [List.getElem?_cons_zero, Option.some.injEq] at e1
    subst e1 e2
    exact .cons _ t (strs_at (by simpa using hl) fun j v hv => h (j + 1) v (by simpa using hv))
theorem keys_at {fs : List (Str × Value)} {vs : List Value} (hlen : vs.length = fs.length) (hv : ∀ (j : Nat) (v : Value), vs[j]? = some v → ∃ k x, fs[j]? = some (k, x) ∧ (PySem.strKind c.prog c.w).is k v = true) : StrsAre vs (fs.map (·.1)) :=
  strs_at (hlen.trans (List.length_map ..).symm) fun j v e => by
    obtain ⟨x, y, e1, e2⟩ := hv j v e
    obtain ⟨t, rfl⟩ := Value.isStrOf_shape e2
    exact ⟨x, t, by rw [List.getElem?_map, e1]; rfl, rfl⟩
theorem we_listD {d : Addr} {fs : List (Str × Value)} {ep : Nat} (hd : H d = some (.dct fs ep)) (hn : (fs.map (·.1)).Nodup) (hz : fs.length ≤ 16000000) (h : ∀ vs, StrsAre vs (fs.map (·.1)) → ∀ a, H a = none → Q (.ref a) (H.put a (.lst vs))) : WE c (call (.type "list") [.ref d]) m H Q := WE.dct hd hn fun s news ob I F N L m1 hD lo =>
  kdl_N (kdl_dict (knd := PySem.strKind c.prog c.w) lo) c.hand F N hD (big hz) fun D k h' tk vs F' N' l1 hlen hv => I.made L F' N' l1 shLst (h vs (keys_at hlen hv))
theorem we_sortedD {d : Addr} {fs : List (Str × Value)} {ep : Nat} (hd : H d = some (.dct fs ep)) (hn : (fs.map (·.1)).Nodup) (hz : fs.length < 64) (h : ∀ vs ss, StrsAre vs ss → ss.Perm (fs.map (·.1)) → ∀ a, H a = none → Q (.ref a) (H.put a (.lst vs))) : WE c (call (.builtin "sorted") [.ref d]) m H Q := WE.dct hd hn fun s news ob I F N L m1 hD lo => by
  refine kdu_sorted (kdl_dict (knd := PySem.strKind c.prog c.w) lo) c.hand F N hD (big (by omega)) fun D h' tk vs F' N' l1 hlen hv => ?_
  have hS := keys_at hlen hv
  have z := N' _ (.head _)
  have hD : h'.get? D = some (seqObj "list" vs.toArray 0) := z.1
  refine wpAny_call_entry PyProof.Rows.slot_list_sort ⟨_, z.1, rfl⟩ PyProof.Rows.entry_list_sort (list_sort_treeK (A := (c.A.in1).in1) strKind_oneLt hD hS.keysOf (fun v₁ v₂ rest e => keyKind_strs (by rw [← e]; exact hS)) (hlen ▸ hz) fun st' hp hs => ⟨.none, rfl, ?_⟩) (PyProof.Rows.args_list_sort _)
  obtain ⟨ss', h1, h2, h3⟩ := sorted_out_str hS hp hs
  obtain ⟨e, he⟩ := sortedHeap_at (out := (arrOf st').map (·.2)) hD
  have keep : ∀ b o, b ≠ D → h'.get? b = some o → (sortedHeap h' D vs ((arrOf st').map (·.2))).get? b = some o := fun b o hb ho => (sortedHeap_old hb (Heap.lt_size ho)).trans ho
  refine I.made (o := .lst ((arrOf st').map (·.2)).toList) (ob := W.listOf ((arrOf st').map (·.2)).toList.toArray e) L ⟨F'.ns.at' fun o e => keep _ _ (Ne.symm z.2.1) e, fun b x e => keep _ _ (fun q => ?_) (F'.keep b x e), F'.above⟩ (fun p hp => ?_) l1 shLst (h _ _ h1 h2)
  · rw [q, z.2.2] at e; cases e
  · rcases List.mem_cons.mp hp with rfl | hp
    · exact ⟨by rw [Array.toArray_toList]; exact he, z.2⟩
    · have q := N' p (.tail _ hp)
      exact ⟨keep _ _ (Nat.ne_of_lt (l1 p hp)) q.1, q.2⟩

/-! ## comparisons of lists -/
theorem we_neNil {l b : Addr} {vs : List Value} (hl : H l = some (.lst vs)) (hb : H b = some (.lst [])) (hu : c.A.units < cLine) (h : Q (.bool (!vs.isEmpty)) H) : WE c (compareOp .NotEq (.ref l) (.ref b)) m H Q := WE.lst hl fun s news n I F N L m1 hL => by
  have hB := (L.listAt N hb).choose_spec.2.2
  cases vs with
  | nil => exact SeqAt.RcNeAt.lists (e := fun _ => true) hL hB rfl hu (fun j h1 => absurd h1 (Nat.not_lt_zero _)) _ _ _ _ (pq I h)
  | cons x xs => exact SeqAt.RcNeAt.lists_lengths hL hB rfl hu _ _ _ _ (pq I h)
theorem we_neNone {l : Addr} {vs : List Value} (hl : H l = some (.lst vs)) (hu : c.A.units < cLine) (h : Q (.bool true) H) : WE c (compareOp .NotEq (.ref l) .none) m H Q := WE.lst hl fun s news n I F N L m1 hL =>
  SeqAt.RcNeAt.list_none hL hu _ _ _ _ (pq I h)
theorem we_neNones (h : Q (.bool false) H) : WE c (compareOp .NotEq .none .none) m H Q := fun s I => SeqAt.RcNeAt.none_none _ _ _ _ (pq I h)
/-- a piece of plain data: a number, a text, None, a pair of numbers -/
inductive LitIs (H : AH) : Value → Dat → Prop
  | none : LitIs H .none .none
  | int (i : Int) (t : Tok) : LitIs H (.int i t) (.int i)
  | str (x : Str) (t : Tok) : PyData.strOk x = true → LitIs H (.str x t) (.str x)
  | pair {a : Addr} {i j : Int} {t u : Tok} : H a = some (.tup [.int i t, .int j u]) → LitIs H (.ref a) (.tuple [.int i, .int j])
inductive LitsAre (H : AH) : List Value → List Dat → Prop
  | nil : LitsAre H [] []
  | cons {v : Value} {d : Dat} {vs ds} : LitIs H v d → LitsAre H vs ds → LitsAre H (v :: vs) (d :: ds)
theorem LitIs.mono {H H' : AH} {v : Value} {d : Dat} (h : LitIs H v d) (hk : ∀ a vs, H a = some (.tup vs) → H' a = some (.tup vs)) : LitIs H' v d := by
  cases h with
  | none => exact .none
  | int i t => exact .int i t
  | str x t h => exact .str x t h
  | pair h => exact .pair (hk _ _ h)
theorem LitsAre.mono {H H' : AH} {v : List Value} {d : List Dat} (h : LitsAre H v d) (hk : ∀ a vs, H a = some (.tup vs) → H' a = some (.tup vs)) : LitsAre H' v d := by
  induction h with
  | nil => exact .nil
  | cons h _ ih => exact .cons (h.mono hk) ih
theorem LitsAre.length {H : AH} {v : List Value} {d : List Dat} (h : LitsAre H v d) : v.length = d.length := by
  induction h with
  | nil => rfl
  | cons _ _ ih => simp [ih]
theorem LitIs.dat {P : Params} {news : List (Addr × Obj)} (L : Led P news H) {v : Value} {d : Dat} (h : LitIs H v d) : DatIn news v d ∧ kqdOk 8 d = true := by
  cases h with
  | none => exact ⟨.none, rfl⟩
  | int i t => exact ⟨.int i t, rfl⟩
  | str x t h => exact ⟨.str x t, h⟩
  | pair h =>
    obtain ⟨ob, m1, n, rfl⟩ := (L _ _ h).shape rfl
    exact ⟨.tuple m1 (.cons (.int _ _) (.cons (.int _ _) .nil)), rfl⟩
theorem LitsAre.dat {P : Params} {news : List (Addr × Obj)} (L : Led P news H) {v : List Value} {d : List Dat} (h : LitsAre H v d) : DatAll news v d ∧ ∀ x ∈ d, kqdOk 8 x = true := by
  induction h with
  | nil => exact ⟨.nil, fun _ h => nomatch h⟩
  | cons h _ ih => exact ⟨.cons (h.dat L).1 ih.1, fun x hx => by rcases List.mem_cons.mp hx with rfl | hx; exact (h.dat L).2; exact ih.2 x hx⟩
open Classical in
theorem we_eqLits {l b : Addr} {vs ws : List Value} {ds es : List Dat} (hl : H l = some (.lst vs)) (hb : H b = some (.lst ws)) (hd : LitsAre H vs ds) (he : LitsAre H ws es) (hu : c.A.units + 64 < cLine) (h : ∀ r : Bool, (r = true ↔ ds = es) → Q (.bool r) H) : WE c (compareOp .Eq (.ref l) (.ref b)) m H Q := WE.lst hl fun s news n I F N L m1 hL =>
  (L.listAt N hb).elim fun n2 x => kqd_eq N m1 rfl rfl (hd.dat L).1 (fun _ h => h) x.1 rfl rfl (he.dat L).1 (fun _ h => h) (hd.dat L).2 (he.dat L).2 hu (pq I (h _ (decide_eq_true_iff)))
open Classical in
theorem we_neLits {l b : Addr} {vs ws : List Value} {ds es : List Dat} (hl : H l = some (.lst vs)) (hb : H b = some (.lst ws)) (hd : LitsAre H vs ds) (he : LitsAre H ws es) (hu : c.A.units + 64 < cLine) (h : ∀ r : Bool, (r = true ↔ ds = es) → Q (.bool !r) H) : WE c (compareOp .NotEq (.ref l) (.ref b)) m H Q := WE.lst hl fun s news n I F N L m1 hL =>
  (L.listAt N hb).elim fun n2 x => kqd_ne N m1 rfl rfl (hd.dat L).1 (fun _ h => h) x.1 rfl rfl (he.dat L).1 (fun _ h => h) (hd.dat L).2 (he.dat L).2 hu (pq I (h _ (decide_eq_true_iff)))
theorem we_eqDnil {d b : Addr} {fs : List (Str × Value)} {ep eb : Nat} (hd : H d = some (.dct fs ep)) (hn : (fs.map (·.1)).Nodup) (hb : H b = some (.dct [] eb)) (hu : c.A.units < cLine) (h : Q (.bool fs.isEmpty) H) : WE c (compareOp .Eq (.ref d) (.ref b)) m H Q := WE.dct hd hn fun s news ob I F N L m1 hD lo => by
  refine keq_eq (knd := PySem.strKind c.prog c.w) (r := true) lo (L.notModules c N hb) hD.dictOf (L.dictAt (prog := c.prog) N hb .nil).dictOf hu (fun e => ?_) (pq I ?_)
  · cases fs with
    | nil => exact .nil
    | cons _ _ => cases e
  · cases fs <;> exact h

/-! ## dicts made -/
theorem we_dictNil {pos : Pos} (h : ∀ ep a, H a = none → Q (.ref a) (H.put a (.dct [] ep))) : WE c (eval (.Dict [] [] pos) c.env) m H Q := WE.of fun s news I F N L =>
  newDict_K F N c.top.nolimit fun d h' o F' N' l1 lo hd _ _ _ => (dict_shape hd).elim fun ep sh => I.made L F' N' l1 sh (h ep)
noncomputable def Pairs1 (c : Cx K) (pos : Pos) (ks : List (Option Expr)) (vs : List Expr) (m : Loc) (H : AH) (Q : List (Value × Value) → AH → Prop) : Prop := WE c (evalPairs (pairTrees ks vs c.env pos)) m H Q
theorem pairs_nil {pos : Pos} {Q : List (Value × Value) → AH → Prop} (h : Q [] H) : Pairs1 c pos [] [] m H Q := fun s I => pairTrees_nil_walk (pq I h)
theorem pairs_cons {pos : Pos} {k v : Expr} {ks : List (Option Expr)} {vs : List Expr} {Q : List (Value × Value) → AH → Prop} (h : WE c (eval k c.env) m H fun kv H1 => WE c (eval v c.env) m H1 fun vv H2 => Pairs1 c pos ks vs m H2 fun r H3 => Q ((kv, vv) :: r) H3) : Pairs1 c pos (some k :: ks) (v :: vs) m H Q := fun s I =>
  pairTrees_cons_walk (h.seq I fun _ _ _ I1 h1 => h1.seq I1 fun _ _ _ I2 h2 => WE.seq h2 I2 fun _ _ _ I3 q => pq I3 q)
inductive TextPairs : List (Str × Value) → List (Value × Value) → Prop
  | nil : TextPairs [] []
  | cons {x : Str} {t : Tok} {v : Value} {r r'} : TextPairs r r' → TextPairs ((x, v) :: r) ((.str x t, v) :: r')
theorem TextPairs.carries {prog : Program} {w : World} {fs : List (Str × Value)} {vs : List (Value × Value)} (h : TextPairs fs vs) : Carries (PySem.strKind prog w) vs fs := by
  induction h with
  | nil => trivial
  | cons _ ih => exact ⟨strKind_is prog w _ _, rfl, ih⟩
theorem we_dictMade {keys : List (Option Expr)} {values : List Expr} {pos : Pos} (hk : strLits keys = true) (ha : (keys.all fun x => x.isSome) = true) (hl : keys.length = values.length) (hne : keys ≠ []) (hz : keys.length ≤ 15)
    (h : ∀ d, H d = none → Pairs1 c pos keys values m (H.put d (.dct [] 0)) fun vs H1 => ∃ fs, TextPairs fs vs ∧ H1 d = some (.dct [] 0) ∧ ∀ ep, Q (.ref d) (H1.put d (.dct (merged [] fs) ep))) : WE c (eval (.Dict keys values pos) c.env) m H Q := WE.of fun s news I F N L => by
  refine Dict_made_str hk F ha hl hne hz fun F1 => ?_
  have fr : H s.heap.objs.size = none := L.fresh (below_size N)
  refine WE.seq (h _ fr) (I.heap F1 (N.push F _) (L.push (o := .dct [] 0) fr ⟨[], rfl, .nil⟩)) fun vs H2 s2 I2 X => ?_
  obtain ⟨fs, hp, hd, hq⟩ := X
  obtain ⟨news2, F2, N2, L2⟩ := I2.ex
  obtain ⟨o1, m1, _⟩ := (L2 _ _ hd).shape rfl
  exact ⟨fs, hp.carries, (L2.dictAt (prog := c.prog) N2 hd .nil).dictOf, fun h' hm hs => dict_turned I2 F2 N2 L2 hd m1 hm hs hq⟩
end Mine
namespace Mine
variable {K : Params → Frag} {c : Cx K} {m : Loc} {H : AH} {Q : Value → AH → Prop}

theorem swaps_name {elt : Expr} {gens : List Comprehension} {scope sc : Scope} {pos pos' : Pos} {t : Str} {line : Nat} {cl : List (Str × Addr)} {D : Addr} (e : EnvIs c sc cl D)
    (h : (sc.kind == .function && sc.names.lookup t == some .local && pos'.line == pos.line && !(scope.names.any fun (n, k) => n == t && (k == .local || k == .cell))) = true) (hb : c.env.blockKind = sc.kind) :
    swapsWith (.ListComp elt gens scope pos) (some (.Name t pos')) line c.env = pure true := by
  show (pure (c.env.blockKind == .function && c.env.kindOf t == some .local && pos'.line == pos.line && !(scope.names.any fun (n, k) => n == t && (k == .local || k == .cell))) : Sem Bool) = pure true
  rw [hb]
  unfold Env.kindOf
  rw [e.scope, h]

theorem Inv.kept {s : Shared} (I : Inv c m H s) {h' : Heap} (k : ∀ b o, s.heap.get? b = some o → h'.get? b = some o) : Inv c m H { s with heap := h' } := by
  obtain ⟨news, F, N, L⟩ := I.ex
  exact ⟨⟨news, F.kept k, News.grown N k, L⟩, I.rest⟩

/-- a comprehension over a list of pairs -/
noncomputable def CompOk2 (c : Cx K) (x y : Str) (elt : Expr) (scope : Scope) (cl : List (Str × Addr)) (m : Loc) (itv : Value) (H : AH) (Q : Addr → AH → Prop) : Prop :=
  ∃ it l ps, itv = .ref it ∧ (H it).isSome = true ∧
    ∀ acc D, H acc = none → H D = none → acc ≠ D → ∃ J : Nat → List Value → AH → Prop,
      (∀ i vs H, J i vs H → H it = some (.itl l i) ∧ H l = some (.lst ps) ∧ H acc = some (.lst vs) ∧ vs.length ≤ 1000 ∧ ∃ fs, H D = some (.ns fs)) ∧ J 0 [] ((H.put acc (.lst [])).put D (.ns [])) ∧
      (∀ i v vs H1 fs, ps[i]? = some v → J i vs H1 → H1 D = some (.ns fs) → ∃ t v1 v2, v = .ref t ∧ H1 t = some (.tup [v1, v2]) ∧ t ≠ it ∧ WE (c.comp scope cl D) (eval elt (c.comp scope cl D).env) m (((H1.put it (.itl l (i + 1))).put D (.ns ((x, v1) :: fs))).put D (.ns ((y, v2) :: (x, v1) :: fs))) fun z H4 => H4 acc = some (.lst vs) ∧ J (i + 1) (vs ++ [z]) (H4.put acc (.lst (vs ++ [z])))) ∧
      ∀ vs H1, J ps.length vs H1 → Q acc ((H1.del it).del D)
theorem pair_block {x y : Str} {px py : Pos} {k1 : Nat} {tp : Pos} {elt iter : Expr} {scope sc : Scope} {cl0 cl : List (Str × Addr)} {L0 : Addr} {pos : Pos} {itv : Value} {Q : Addr → AH → Prop}
    (e : EnvIs c sc cl0 L0) (hx : kindIs (relabelS scope sc) x .local = true) (hy : kindIs (relabelS scope sc) y .local = true) (h : CompOk2 c x y elt scope cl m itv H Q) : Block c (.ListComp elt [⟨.Tuple [.Name x px, .Name y py] k1 tp, iter, [], 0⟩] scope pos) scope cl m (fun _ => .lst []) itv H Q := by
  obtain ⟨it, l, ps', rfl, his, ok⟩ := h
  refine ⟨it, rfl, his, fun acc ea D hacc hD hDa hne s R I hR => ?_⟩
  obtain ⟨J, at_, h0, step, fin⟩ := ok acc D hacc hD hDa
  have Dr : Drives (c.comp scope cl D) it ps'.length (.itl l) (fun H => H l = some (.lst ps')) fun i v => ps'[i]? = some v := drives_list
  have loop : ∀ s, Inv c m ((H.put acc (.lst [])).put D (.ns [])) s → codeAny (model c.prog c.w) c.A (.compLoop (.ListComp elt [⟨.Tuple [.Name x px, .Name y py] k1 tp, iter, [], 0⟩] scope pos) 0 (.ref it) (.ref acc) (compEnvC scope cl D c.env)) R s := fun s I => by
    refine LCp.codeAny_compLoop_pair (fun k s' => ∃ i vs H', Inv c m H' s' ∧ J i vs H' ∧ i ≤ ps'.length ∧ k = ps'.length + 1 - i) (fun k s' X => ?_) (ps'.length + 1) ⟨0, [], _, I, h0, Nat.zero_le _, rfl⟩
    obtain ⟨i, vs, H', I', hJ, hi, rfl⟩ := X
    obtain ⟨hit, hs, hacc, hz, fs, hD⟩ := at_ i vs H' hJ
    by_cases hlt : i < ps'.length
    · refine (Dr.item i m H' hlt hit hs).seqN I'.comp fun r H1 s1 I1 X => ?_
      obtain ⟨v, rfl, hP, rfl⟩ := X
      obtain ⟨t, v1, v2, rfl, ht, htn, W⟩ := step i v vs H' fs hP hJ hD
      obtain ⟨news, F, N, L⟩ := I1.uncomp.ex
      obtain ⟨o1, m1, c1, d1⟩ := (L _ _ put_self).shape rfl
      refine wpAny_letOwnedTupleGo_listiter ⟨o1, N.get m1, c1, d1⟩ (assign_Tuple_tuple c.hand (L.tupAt N ((put_ne htn).trans ht)).choose_spec.2 rfl rfl fun h' hx' => ?_)
      refine assignInOrder_cons (wpAny_assign_Name (comp_store (v := v1) e hx (I1.uncomp.kept fun b o ho => hx' b o (Nat.ne_of_lt (Heap.lt_size ho)) ho) ((put_ne hne).trans hD) fun s3 I3 => ?_))
      refine assignInOrder_cons (wpAny_assign_Name (comp_store (v := v2) e hy I3 put_self fun s4 I4 => assignInOrder_nil (W.seqN I4.comp fun z H5 s5 I5 X => ?_)))
      exact (we_append (Q := fun _ H6 => J (i + 1) (vs ++ [z]) H6) X.1 (Nat.le_trans hz (Nat.le_of_ble_eq_true rfl)) X.2).seqN I5.uncomp fun _ H6 s6 I6 q => ⟨ps'.length + 1 - (i + 1), turn_less hlt, i + 1, _, H6, I6, q, hlt, rfl⟩
    · obtain rfl : i = ps'.length := Nat.le_antisymm hi (Nat.le_of_not_lt hlt)
      refine (Dr.done m H' hit hs).seqN I'.comp fun r H1 s1 I1 X => ?_
      obtain ⟨rfl, rfl⟩ := X
      exact hR _ s1 fs (del_some hD hne) (fin vs H' hJ) I1.uncomp
  refine codeAny_compStart_list (loop s I) (((self_list (c := c.comp scope cl D)).self m _ (at_ 0 [] _ h0).1).seqN I.comp fun r H1 s1 I1 X => ?_)
  obtain ⟨rfl, rfl⟩ := X
  exact loop s1 I1.uncomp
theorem we_pairComp {x y : Str} {px py : Pos} {k1 : Nat} {tp : Pos} {elt iter : Expr} {scope sc : Scope} {cl0 cl : List (Str × Addr)} {L0 : Addr} {pos : Pos}
    (e : CompSc c sc scope cl0 cl L0 iter) (hx : kindIs (relabelS scope sc) x .local = true) (hy : kindIs (relabelS scope sc) y .local = true)
    (h : WE c (eval iter c.env) m H fun v H1 => WE c (pyIter v) m H1 fun itv H2 => CompOk2 c x y elt scope cl m itv H2 fun acc H3 => Q (.ref acc) H3) :
    WE c (eval (.ListComp elt [⟨.Tuple [.Name x px, .Name y py] k1 tp, iter, [], 0⟩] scope pos) c.env) m H Q :=
  we_comp e rfl new_lst (h.mono fun _ _ h1 => h1.mono fun _ _ h2 => pair_block e.env hx hy h2)

/-! ## a dict comprehension with a test -/
theorem we_dictSet {d : Addr} {fs : List (Str × Value)} {ep : Nat} {x : Str} {u : Tok} {v : Value} {Q : Unit → AH → Prop} (hd : H d = some (.dct fs ep)) (hn : (fs.map (·.1)).Nodup) (hz : fs.length ≤ 16000000) (h : ∀ ep', Q () (H.put d (.dct (stored fs x v) ep'))) : WE c (dictSet d (.str x u) v) m H Q := WE.dct hd hn fun s news ob I F N L m1 hD lo =>
  wpAny_dictSet_pairs (hsz := big hz) (strKind_is c.prog c.w x u) hD.dictOf fun h' hmm hs => dict_turned I F N L hd m1 hmm hs h
noncomputable def CompOkD (c : Cx K) (x : Str) (kx vx cnd : Expr) (scope : Scope) (cl : List (Str × Addr)) (m : Loc) (itv : Value) (H : AH) (Q : Addr → AH → Prop) : Prop :=
  ∃ it d fd ep, itv = .ref it ∧ (H it).isSome = true ∧ (fd.map (·.1)).Nodup ∧
    ∀ acc ea D, H acc = none → H D = none → acc ≠ D → ∃ J : Nat → AH → Prop,
      (∀ i H, J i H → H it = some (.itd d i fd.length ep) ∧ H d = some (.dct fd ep) ∧ ∃ fs, H D = some (.ns fs)) ∧ J 0 ((H.put acc (.dct [] ea)).put D (.ns [])) ∧
      (∀ i y u t H1 fs, fd[i]? = some (y, u) → J i H1 → H1 D = some (.ns fs) → WE (c.comp scope cl D) (PySem.isTrue cnd (c.comp scope cl D).env (eval cnd (c.comp scope cl D).env)) m ((H1.put it (.itd d (i + 1) fd.length ep)).put D (.ns ((x, .str y t) :: fs))) fun b H4 =>
        if b = true then WE (c.comp scope cl D) (eval kx (c.comp scope cl D).env) m H4 (fun kv H5 => WE (c.comp scope cl D) (eval vx (c.comp scope cl D).env) m H5 fun vv H6 => WE c (dictSet acc kv vv) m H6 fun _ H7 => J (i + 1) H7) else J (i + 1) H4) ∧
      ∀ H1, J fd.length H1 → Q acc ((H1.del it).del D)
theorem dict_block {x : Str} {px : Pos} {kx vx cnd iter : Expr} {scope sc : Scope} {cl0 cl : List (Str × Addr)} {L0 : Addr} {pos : Pos} {itv : Value} {Q : Addr → AH → Prop}
    (e : EnvIs c sc cl0 L0) (hk : kindIs (relabelS scope sc) x .local = true) (h : CompOkD c x kx vx cnd scope cl m itv H Q) : Block c (.DictComp kx vx [⟨.Name x px, iter, [cnd], 0⟩] scope pos) scope cl m (fun ea => .dct [] ea) itv H Q := by
  obtain ⟨it, d, fd, ep, rfl, his, hnd, ok⟩ := h
  refine ⟨it, rfl, his, fun acc ea D hacc hD hDa hne s R I hR => ?_⟩
  obtain ⟨J, at_, h0, step, fin⟩ := ok acc ea D hacc hD hDa
  have Dr : Drives (c.comp scope cl D) it fd.length (fun i => .itd d i fd.length ep) (fun H => H d = some (.dct fd ep)) fun i v => ∃ x u t, fd[i]? = some (x, u) ∧ v = .str x t := drives_dict hnd
  have loop : ∀ s, Inv c m ((H.put acc (.dct [] ea)).put D (.ns [])) s → codeAny (model c.prog c.w) c.A (.compLoop (.DictComp kx vx [⟨.Name x px, iter, [cnd], 0⟩] scope pos) 0 (.ref it) (.ref acc) (compEnvC scope cl D c.env)) R s := fun s I => by
    refine codeAny_compLoop_testsD (fun k s' => ∃ i H', Inv c m H' s' ∧ J i H' ∧ i ≤ fd.length ∧ k = fd.length + 1 - i) (fun k s' X => ?_) (fd.length + 1) ⟨0, _, I, h0, Nat.zero_le _, rfl⟩
    obtain ⟨i, H', I', hJ, hi, rfl⟩ := X
    obtain ⟨hit, hs, fs, hD⟩ := at_ i H' hJ
    by_cases hlt : i < fd.length
    · refine (Dr.item i m H' hlt hit hs).seqN I'.comp fun r H1 s1 I1 X => ?_
      obtain ⟨v, rfl, ⟨y, u, t, hP, rfl⟩, rfl⟩ := X
      refine wpAny_assign_Name (comp_store (v := .str y t) e hk I1.uncomp ((put_ne hne).trans hD) fun s2 I2 => ?_)
      rw [List.forIn_cons]
      refine wpAny_bind (wpAny_bind ((step i y u t H' fs hP hJ hD).seqN I2.comp fun b H4 s4 I4 q => wpAny_pure (wpAny_pure ?_)))
      have done : ∀ {H' s'}, J (i + 1) H' → Inv c m H' s' → ∃ k, k < fd.length + 1 - i ∧ ∃ i H', Inv c m H' s' ∧ J i H' ∧ i ≤ fd.length ∧ k = fd.length + 1 - i := fun q I => ⟨fd.length + 1 - (i + 1), turn_less hlt, i + 1, _, I, q, hlt, rfl⟩
      cases b with
      | false => exact done q I4.uncomp
      | true => exact WE.seqN (c := c.comp scope cl D) q I4 fun kv H5 s5 I5 q5 => WE.seqN (c := c.comp scope cl D) q5 I5 fun vv H6 s6 I6 q6 => WE.seqN q6 I6.uncomp fun _ H7 s7 I7 q7 => done q7 I7
    · obtain rfl : i = fd.length := Nat.le_antisymm hi (Nat.le_of_not_lt hlt)
      refine (Dr.done m H' hit hs).seqN I'.comp fun r H1 s1 I1 X => ?_
      obtain ⟨rfl, rfl⟩ := X
      exact hR _ s1 fs (del_some hD hne) (fin H' hJ) I1.uncomp
  refine codeAny_compStart_dict (loop s I) (((self_dict (c := c.comp scope cl D)).self m _ (at_ 0 _ h0).1).seqN I.comp fun r H1 s1 I1 X => ?_)
  obtain ⟨rfl, rfl⟩ := X
  exact loop s1 I1.uncomp
theorem new_dct (H2 : AH) : WE c newDict m H2 fun v H3 => ∃ acc, ∃ ea, v = .ref acc ∧ H2 acc = none ∧ H3 = H2.put acc (.dct [] ea) := fun s I =>
  we_dictNil (c := c) (m := m) (H := H2) (pos := ⟨0, 0, 0, 0⟩) (Q := fun v H3 => ∃ acc, ∃ ea, v = .ref acc ∧ H2 acc = none ∧ H3 = H2.put acc (.dct [] ea)) (fun ea a ha => ⟨a, ea, rfl, ha, rfl⟩) s I
theorem we_dictComp {x : Str} {px : Pos} {kx vx cnd iter : Expr} {scope sc : Scope} {cl0 cl : List (Str × Addr)} {L0 : Addr} {pos : Pos}
    (e : CompSc c sc scope cl0 cl L0 iter) (hk : kindIs (relabelS scope sc) x .local = true)
    (h : WE c (eval iter c.env) m H fun v H1 => WE c (pyIter v) m H1 fun itv H2 => CompOkD c x kx vx cnd scope cl m itv H2 fun acc H3 => Q (.ref acc) H3) :
    WE c (eval (.DictComp kx vx [⟨.Name x px, iter, [cnd], 0⟩] scope pos) c.env) m H Q :=
  we_comp e rfl new_dct (h.mono fun _ _ h1 => h1.mono fun _ _ h2 => dict_block e.env hk h2)
end Mine
namespace Mine
theorem fn_same_attrs (P : Params) : FnIs (K P) 207 (fArgs s11) (fBody s11) (fScope s11) .none := ⟨⟨_, _, _, _, _, _, _, _, _, _, _, rfl, rfl⟩, rfl, rfl, rfl⟩
theorem fn_same_items (P : Params) : FnIs (K P) 214 (fArgs s12) (fBody s12) (fScope s12) .none := ⟨⟨_, _, _, _, _, _, _, _, _, _, _, rfl, rfl⟩, rfl, rfl, rfl⟩
theorem fn_same_formals (P : Params) : FnIs (K P) 221 (fArgs s13) (fBody s13) (fScope s13) .none := ⟨⟨_, _, _, _, _, _, _, _, _, _, _, rfl, rfl⟩, rfl, rfl, rfl⟩
theorem fn_same_slots (P : Params) : FnIs (K P) 228 (fArgs s14) (fBody s14) (fScope s14) .none := ⟨⟨_, _, _, _, _, _, _, _, _, _, _, rfl, rfl⟩, rfl, rfl, rfl⟩
theorem fn_same_kernel (P : Params) : FnIs (K P) 242 (fArgs s16) (fBody s16) (fScope s16) .none := ⟨⟨_, _, _, _, _, _, _, _, _, _, _, rfl, rfl⟩, rfl, rfl, rfl⟩
theorem fn_identical (P : Params) : FnIs (K P) 249 (fArgs s17) (fBody s17) (fScope s17) .none := ⟨⟨_, _, _, _, _, _, _, _, _, _, _, rfl, rfl⟩, rfl, rfl, rfl⟩
theorem fn_names_items (P : Params) : FnIs (K P) 256 (fArgs s18) (fBody s18) (fScope s18) .none := ⟨⟨_, _, _, _, _, _, _, _, _, _, _, rfl, rfl⟩, rfl, rfl, rfl⟩
theorem fn_same_code (P : Params) : FnIs (K P) 263 (fArgs s19) (fBody s19) (fScope s19) .none := ⟨⟨_, _, _, _, _, _, _, _, _, _, _, rfl, rfl⟩, rfl, rfl, rfl⟩
theorem fn_row (P : Params) : FnIs (K P) 270 (fArgs s21) (fBody s21) (fScope s21) .none := ⟨⟨_, _, _, _, _, _, _, _, _, _, _, rfl, rfl⟩, rfl, rfl, rfl⟩
theorem fn_next (P : Params) : FnIs (K P) 277 (fArgs s22) (fBody s22) (fScope s22) .none := ⟨⟨_, _, _, _, _, _, _, _, _, _, _, rfl, rfl⟩, rfl, rfl, rfl⟩
theorem fn_made (P : Params) : FnIs (K P) 282 (fArgs s23) (fBody s23) (fScope s23) .none := ⟨⟨_, _, _, _, _, _, _, _, _, _, _, rfl, rfl⟩, rfl, rfl, rfl⟩
theorem fn_again (P : Params) : FnIs (K P) 287 (fArgs s24) (fBody s24) (fScope s24) .none := ⟨⟨_, _, _, _, _, _, _, _, _, _, _, rfl, rfl⟩, rfl, rfl, rfl⟩
theorem fn_altered (P : Params) : FnIs (K P) 292 (fArgs s25) (fBody s25) (fScope s25) .none := ⟨⟨_, _, _, _, _, _, _, _, _, _, _, rfl, rfl⟩, rfl, rfl, rfl⟩
theorem fn_law (P : Params) : FnIs (K P) 299 (fArgs s26) (fBody s26) (fScope s26) .none := ⟨⟨_, _, _, _, _, _, _, _, _, _, _, rfl, rfl⟩, rfl, rfl, rfl⟩
theorem fn_Null (P : Params) : FnIs (K P) 35 (fArgs (nth 0 (fBody s2))) (fBody (nth 0 (fBody s2))) (fScope (nth 0 (fBody s2))) .none := ⟨⟨_, _, _, _, _, _, _, _, _, _, _, rfl, rfl⟩, rfl, rfl, rfl⟩
theorem fn_Missing (P : Params) : FnIs (K P) 56 (fArgs (nth 0 (fBody s3))) (fBody (nth 0 (fBody s3))) (fScope (nth 0 (fBody s3))) .none := ⟨⟨_, _, _, _, _, _, _, _, _, _, _, rfl, rfl⟩, rfl, rfl, rfl⟩
theorem fn_Vector (P : Params) : FnIs (K P) 78 (fArgs (nth 0 (fBody s4))) (fBody (nth 0 (fBody s4))) (fScope (nth 0 (fBody s4))) (.ref 71) := ⟨⟨_, _, _, _, _, _, _, _, _, _, _, rfl, rfl⟩, rfl, rfl, rfl⟩
theorem fn_Symbol (P : Params) : FnIs (K P) 106 (fArgs (nth 0 (fBody s5))) (fBody (nth 0 (fBody s5))) (fScope (nth 0 (fBody s5))) .none := ⟨⟨_, _, _, _, _, _, _, _, _, _, _, rfl, rfl⟩, rfl, rfl, rfl⟩
theorem fn_Call (P : Params) : FnIs (K P) 128 (fArgs (nth 0 (fBody s6))) (fBody (nth 0 (fBody s6))) (fScope (nth 0 (fBody s6))) (.ref 121) := ⟨⟨_, _, _, _, _, _, _, _, _, _, _, rfl, rfl⟩, rfl, rfl, rfl⟩
theorem fn_Closure (P : Params) : FnIs (K P) 150 (fArgs (nth 0 (fBody s7))) (fBody (nth 0 (fBody s7))) (fScope (nth 0 (fBody s7))) (.ref 143) := ⟨⟨_, _, _, _, _, _, _, _, _, _, _, rfl, rfl⟩, rfl, rfl, rfl⟩
theorem fn_Environment (P : Params) : FnIs (K P) 172 (fArgs (nth 0 (fBody s8))) (fBody (nth 0 (fBody s8))) (fScope (nth 0 (fBody s8))) (.ref 165) := ⟨⟨_, _, _, _, _, _, _, _, _, _, _, rfl, rfl⟩, rfl, rfl, rfl⟩
theorem fn_S4Object (P : Params) : FnIs (K P) 193 (fArgs (nth 0 (fBody s9))) (fBody (nth 0 (fBody s9))) (fScope (nth 0 (fBody s9))) .none := ⟨⟨_, _, _, _, _, _, _, _, _, _, _, rfl, rfl⟩, rfl, rfl, rfl⟩
end Mine
namespace Mine
section
variable {c : Cx K} {m : Loc} {H : AH} {sc : Scope} {cl : List (Str × Addr)} {D : Addr} {pos : Pos} {Q : Value → AH → Prop}
theorem gl_Null (e : EnvIs c sc cl D) (hk : kindIs sc (Str.ofString "Null") .globalImplicit = true) (h : Q (.ref 38) H) : WE c (eval (.Name (Str.ofString "Null") pos) c.env) m H Q := we_global e hk (by kernel_rfl) h
theorem gl_Missing (e : EnvIs c sc cl D) (hk : kindIs sc (Str.ofString "Missing") .globalImplicit = true) (h : Q (.ref 59) H) : WE c (eval (.Name (Str.ofString "Missing") pos) c.env) m H Q := we_global e hk (by kernel_rfl) h
theorem gl_Vector (e : EnvIs c sc cl D) (hk : kindIs sc (Str.ofString "Vector") .globalImplicit = true) (h : Q (.ref 88) H) : WE c (eval (.Name (Str.ofString "Vector") pos) c.env) m H Q := we_global e hk (by kernel_rfl) h
theorem gl_Symbol (e : EnvIs c sc cl D) (hk : kindIs sc (Str.ofString "Symbol") .globalImplicit = true) (h : Q (.ref 109) H) : WE c (eval (.Name (Str.ofString "Symbol") pos) c.env) m H Q := we_global e hk (by kernel_rfl) h
theorem gl_Call (e : EnvIs c sc cl D) (hk : kindIs sc (Str.ofString "Call") .globalImplicit = true) (h : Q (.ref 131) H) : WE c (eval (.Name (Str.ofString "Call") pos) c.env) m H Q := we_global e hk (by kernel_rfl) h
theorem gl_Closure (e : EnvIs c sc cl D) (hk : kindIs sc (Str.ofString "Closure") .globalImplicit = true) (h : Q (.ref 153) H) : WE c (eval (.Name (Str.ofString "Closure") pos) c.env) m H Q := we_global e hk (by kernel_rfl) h
theorem gl_Environment (e : EnvIs c sc cl D) (hk : kindIs sc (Str.ofString "Environment") .globalImplicit = true) (h : Q (.ref 175) H) : WE c (eval (.Name (Str.ofString "Environment") pos) c.env) m H Q := we_global e hk (by kernel_rfl) h
theorem gl_S4Object (e : EnvIs c sc cl D) (hk : kindIs sc (Str.ofString "S4Object") .globalImplicit = true) (h : Q (.ref 196) H) : WE c (eval (.Name (Str.ofString "S4Object") pos) c.env) m H Q := we_global e hk (by kernel_rfl) h
theorem gl_same_attrs (e : EnvIs c sc cl D) (hk : kindIs sc (Str.ofString "same_attrs") .globalImplicit = true) (h : Q (.ref 207) H) : WE c (eval (.Name (Str.ofString "same_attrs") pos) c.env) m H Q := we_global e hk (by kernel_rfl) h
theorem gl_same_items (e : EnvIs c sc cl D) (hk : kindIs sc (Str.ofString "same_items") .globalImplicit = true) (h : Q (.ref 214) H) : WE c (eval (.Name (Str.ofString "same_items") pos) c.env) m H Q := we_global e hk (by kernel_rfl) h
theorem gl_same_formals (e : EnvIs c sc cl D) (hk : kindIs sc (Str.ofString "same_formals") .globalImplicit = true) (h : Q (.ref 221) H) : WE c (eval (.Name (Str.ofString "same_formals") pos) c.env) m H Q := we_global e hk (by kernel_rfl) h
theorem gl_same_slots (e : EnvIs c sc cl D) (hk : kindIs sc (Str.ofString "same_slots") .globalImplicit = true) (h : Q (.ref 228) H) : WE c (eval (.Name (Str.ofString "same_slots") pos) c.env) m H Q := we_global e hk (by kernel_rfl) h
theorem gl_same_kernel (e : EnvIs c sc cl D) (hk : kindIs sc (Str.ofString "same_kernel") .globalImplicit = true) (h : Q (.ref 242) H) : WE c (eval (.Name (Str.ofString "same_kernel") pos) c.env) m H Q := we_global e hk (by kernel_rfl) h
theorem gl_identical (e : EnvIs c sc cl D) (hk : kindIs sc (Str.ofString "identical") .globalImplicit = true) (h : Q (.ref 249) H) : WE c (eval (.Name (Str.ofString "identical") pos) c.env) m H Q := we_global e hk (by kernel_rfl) h
theorem gl_names_items (e : EnvIs c sc cl D) (hk : kindIs sc (Str.ofString "names_items") .globalImplicit = true) (h : Q (.ref 256) H) : WE c (eval (.Name (Str.ofString "names_items") pos) c.env) m H Q := we_global e hk (by kernel_rfl) h
theorem gl_same_code (e : EnvIs c sc cl D) (hk : kindIs sc (Str.ofString "same_code") .globalImplicit = true) (h : Q (.ref 263) H) : WE c (eval (.Name (Str.ofString "same_code") pos) c.env) m H Q := we_global e hk (by kernel_rfl) h
theorem gl_law_row (e : EnvIs c sc cl D) (hk : kindIs sc (Str.ofString "_law_row") .globalImplicit = true) (h : Q (.ref 270) H) : WE c (eval (.Name (Str.ofString "_law_row") pos) c.env) m H Q := we_global e hk (by kernel_rfl) h
theorem gl_law_next (e : EnvIs c sc cl D) (hk : kindIs sc (Str.ofString "_law_next") .globalImplicit = true) (h : Q (.ref 277) H) : WE c (eval (.Name (Str.ofString "_law_next") pos) c.env) m H Q := we_global e hk (by kernel_rfl) h
theorem gl_law_made (e : EnvIs c sc cl D) (hk : kindIs sc (Str.ofString "_law_made") .globalImplicit = true) (h : Q (.ref 282) H) : WE c (eval (.Name (Str.ofString "_law_made") pos) c.env) m H Q := we_global e hk (by kernel_rfl) h
theorem gl_law_again (e : EnvIs c sc cl D) (hk : kindIs sc (Str.ofString "_law_again") .globalImplicit = true) (h : Q (.ref 287) H) : WE c (eval (.Name (Str.ofString "_law_again") pos) c.env) m H Q := we_global e hk (by kernel_rfl) h
theorem gl_law_altered (e : EnvIs c sc cl D) (hk : kindIs sc (Str.ofString "_law_altered") .globalImplicit = true) (h : Q (.ref 292) H) : WE c (eval (.Name (Str.ofString "_law_altered") pos) c.env) m H Q := we_global e hk (by kernel_rfl) h
theorem gl_len (e : EnvIs c sc cl D) (hk : kindIs sc (Str.ofString "len") .globalImplicit = true) (h : Q (.builtin "len") H) : WE c (eval (.Name (Str.ofString "len") pos) c.env) m H Q := we_builtin e hk (by kernel_rfl) (by kernel_rfl) (by kernel_rfl) h
theorem gl_range (e : EnvIs c sc cl D) (hk : kindIs sc (Str.ofString "range") .globalImplicit = true) (h : Q (.type "range") H) : WE c (eval (.Name (Str.ofString "range") pos) c.env) m H Q := we_builtin e hk (by kernel_rfl) (by kernel_rfl) (by kernel_rfl) h
theorem gl_isinstance (e : EnvIs c sc cl D) (hk : kindIs sc (Str.ofString "isinstance") .globalImplicit = true) (h : Q (.builtin "isinstance") H) : WE c (eval (.Name (Str.ofString "isinstance") pos) c.env) m H Q := we_builtin e hk (by kernel_rfl) (by kernel_rfl) (by kernel_rfl) h
theorem gl_list (e : EnvIs c sc cl D) (hk : kindIs sc (Str.ofString "list") .globalImplicit = true) (h : Q (.type "list") H) : WE c (eval (.Name (Str.ofString "list") pos) c.env) m H Q := we_builtin e hk (by kernel_rfl) (by kernel_rfl) (by kernel_rfl) h
theorem gl_sorted (e : EnvIs c sc cl D) (hk : kindIs sc (Str.ofString "sorted") .globalImplicit = true) (h : Q (.builtin "sorted") H) : WE c (eval (.Name (Str.ofString "sorted") pos) c.env) m H Q := we_builtin e hk (by kernel_rfl) (by kernel_rfl) (by kernel_rfl) h
theorem after_ret {rest : List Stmt} {v : Value} {Q : Flow → Loc → AH → Prop} (h : Q (.ret v) m H) : After c rest Q (.ret v) m H := h
theorem after_next {rest : List Stmt} {Q : Flow → Loc → AH → Prop} (h : WS c (execs rest c.env) m H Q) : After c rest Q .next m H := h
theorem ite_b {b : Bool} {A B : Prop} (h1 : b = true → A) (h2 : b = false → B) : if b = true then A else B := by
  cases b
  · exact h2 rfl
  · exact h1 rfl
end
end Mine
namespace Mine

/-! ## the data that the program's values stand for -/
inductive Kd | null | miss | sym | env | call | clo | s4 | int | log | dbl | chr | lst | exp
noncomputable def Kd.str : Kd → Str
  | .null => Str.ofString "NULL"
  | .miss => Str.ofString "missing"
  | .sym => Str.ofString "symbol"
  | .env => Str.ofString "environment"
  | .call => Str.ofString "language"
  | .clo => Str.ofString "closure"
  | .s4 => Str.ofString "S4"
  | .int => Str.ofString "integer"
  | .log => Str.ofString "logical"
  | .dbl => Str.ofString "double"
  | .chr => Str.ofString "character"
  | .lst => Str.ofString "list"
  | .exp => Str.ofString "expression"
noncomputable def Kd.num : Kd → Nat
  | .null => 0 | .miss => 1 | .sym => 2 | .env => 3 | .call => 4 | .clo => 5 | .s4 => 6 | .int => 7 | .log => 8 | .dbl => 9 | .chr => 10 | .lst => 11 | .exp => 12
noncomputable def Kd.isLeaf : Kd → Bool
  | .int => true | .log => true | .dbl => true | .chr => true | _ => false
noncomputable def Kd.isList : Kd → Bool
  | .lst => true | .exp => true | _ => false
noncomputable def Kd.isVec : Kd → Bool
  | .int => true | .log => true | .dbl => true | .chr => true | .lst => true | .exp => true | _ => false
noncomputable def Kd.cls : Kd → Addr
  | .null => 38 | .miss => 59 | .sym => 109 | .env => 175 | .call => 131 | .clo => 153 | .s4 => 196 | _ => 88
noncomputable def strKd (x : Str) : List (Str × Kd) → Option Kd
  | [] => none
  | (y, k) :: r => if y == x then some k else strKd x r
noncomputable def allKd : List Kd := [.null, .miss, .sym, .env, .call, .clo, .s4, .int, .log, .dbl, .chr, .lst, .exp]
theorem Kd.back (k : Kd) : strKd k.str (allKd.map fun k => (k.str, k)) = some k := by cases k <;> kernel_rfl
theorem Kd.inj {k k' : Kd} (h : k.str = k'.str) : k = k' := by
  have := k.back
  rw [h, k'.back] at this
  exact (Option.some.inj this).symm
theorem Kd.leafV {k : Kd} (h : k.isLeaf = true) : k.cls = 88 ∧ k.isVec = true ∧ k.isList = false := by cases k <;> first | exact ⟨rfl, rfl, rfl⟩ | cases h
theorem Kd.listV {k : Kd} (h : k.isList = true) : k.cls = 88 ∧ k.isVec = true ∧ k.isLeaf = false := by cases k <;> first | exact ⟨rfl, rfl, rfl⟩ | cases h

inductive T where
  | no
  | node (k : Kd) (ds : List Dat) (its : Nat → T) (sls ats : Str → T)
noncomputable def noI : Nat → T := fun _ => .no
noncomputable def noA : Str → T := fun _ => .no
theorem node_eq {k k' : Kd} {ds ds' : List Dat} {its its' : Nat → T} {sls sls' ats ats' : Str → T} : T.node k ds its sls ats = .node k' ds' its' sls' ats' ↔ k = k' ∧ (ds = ds' ∧ its = its' ∧ sls = sls') ∧ ats = ats' := by
  constructor
  · intro h; cases h; exact ⟨rfl, ⟨rfl, rfl, rfl⟩, rfl⟩
  · rintro ⟨rfl, ⟨rfl, rfl, rfl⟩, rfl⟩; rfl
noncomputable def leafT (k : Kd) (ds : List Dat) (ats : Str → T) : T := .node k ds noI noA ats
noncomputable def NamesOk (t : T) : Prop := t = .no ∨ ∃ k ds ats, k.isLeaf = true ∧ t = leafT k ds ats

/-! ## what the ledger keeps -/
noncomputable def Ext (H H' : AH) : Prop := ∀ b o, H b = some o → H' b = some o
structure ExtR (R : Addr) (H H' : AH) : Prop where
  keep : ∀ b o, H b = some o → b ≠ R → H' b = some o
  live : H R ≠ none → H' R ≠ none
theorem Ext.refl {H : AH} : Ext H H := fun _ _ h => h
theorem Ext.get {H H' : AH} {b : Addr} {o : AO} (h : Ext H H') (e : H b = some o) : H' b = some o := h b o e
theorem Ext.trans {H H' H'' : AH} (h : Ext H H') (h' : Ext H' H'') : Ext H H'' := fun b o e => h' b o (h b o e)
theorem Ext.put {H H' : AH} {a : Addr} {o : AO} (h : Ext H H') (ha : H a = none) : Ext H (H'.put a o) := fun b o' e => by
  rw [put_ne]; exact h b o' e
  rintro rfl; rw [ha] at e; cases e
theorem Ext.nn {H H' : AH} {a : Addr} (h : Ext H H') (ha : H' a = none) : H a = none := by
  cases e : H a with
  | none => rfl
  | some o => rw [h a o e] at ha; cases ha
theorem Ext.new {H H' : AH} {a : Addr} {o : AO} (h : Ext H H') (ha : H' a = none) : Ext H (H'.put a o) := h.put (h.nn ha)
theorem Ext.del {H H' : AH} {a : Addr} (h : Ext H H') (ha : H a = none) : Ext H (H'.del a) := fun b o' e => by
  rw [del_ne]; exact h b o' e
  rintro rfl; rw [ha] at e; cases e
theorem some_ne {H : AH} {a : Addr} {o : AO} (h : H a = some o) : H a ≠ none := by rw [h]; exact fun e => nomatch e
theorem Ext.live {H H' : AH} {b : Addr} (h : Ext H H') (hb : H b ≠ none) : H' b ≠ none := by
  cases e : H b with
  | none => exact (hb e).elim
  | some o => exact some_ne (h _ _ e)
theorem Ext.toR {H H' : AH} (R : Addr) (h : Ext H H') : ExtR R H H' := ⟨fun b o e _ => h b o e, h.live⟩
theorem ExtR.refl {R : Addr} {H : AH} : ExtR R H H := Ext.refl.toR R
theorem ExtR.trans {R : Addr} {H H' H'' : AH} (h : ExtR R H H') (h' : ExtR R H' H'') : ExtR R H H'' := ⟨fun b o e n => h'.keep b o (h.keep b o e n) n, fun x => h'.live (h.live x)⟩
theorem ExtR.ext {R : Addr} {H H' H'' : AH} (h : ExtR R H H') (h' : Ext H' H'') : ExtR R H H'' := h.trans (h'.toR R)
theorem ExtR.nn {R : Addr} {H H' : AH} {a : Addr} (h : ExtR R H H') (ha : H' a = none) : H a = none := by
  cases e : H a with
  | none => rfl
  | some o =>
    by_cases n : a = R
    · subst n; exact (h.live (some_ne e) ha).elim
    · rw [h.keep a o e n] at ha; cases ha
theorem ExtR.put {R : Addr} {H H' : AH} {a : Addr} {o : AO} (h : ExtR R H H') (ha : H a = none) : ExtR R H (H'.put a o) := ⟨fun b o' e n => (by
  rw [put_ne]; exact h.keep b o' e n
  rintro rfl; rw [ha] at e; cases e), fun x => by
  by_cases n : R = a
  · subst n; rw [put_self]; exact fun e => nomatch e
  · rw [put_ne n]; exact h.live x⟩
theorem ExtR.new {R : Addr} {H H' : AH} {a : Addr} {o : AO} (h : ExtR R H H') (ha : H' a = none) : ExtR R H (H'.put a o) := h.put (h.nn ha)
theorem ExtR.row {R : Addr} {H H' : AH} {o : AO} (h : ExtR R H H') : ExtR R H (H'.put R o) := ⟨fun b o' e n => by rw [put_ne n]; exact h.keep b o' e n, fun _ => by rw [put_self]; exact fun e => nomatch e⟩
theorem ExtR.del {R : Addr} {H H' : AH} {a : Addr} (h : ExtR R H H') (ha : H a = none) : ExtR R H (H'.del a) := ⟨fun b o' e n => (by
  rw [del_ne]; exact h.keep b o' e n
  rintro rfl; rw [ha] at e; cases e), fun x => by
  rw [del_ne]; exact h.live x
  rintro rfl; exact x ha⟩
theorem put_old {H : AH} {a b : Addr} {o o' : AO} (ha : H a = none) (hb : H b = some o') : H.put a o b = some o' := Ext.refl.put ha b o' hb
theorem put_diff {H : AH} {a b : Addr} {o o' o'' : AO} (ha : H a = some o'') (hb : H b = some o') (hne : o'' ≠ o') : H.put a o b = some o' := by
  rw [put_ne]; exact hb
  rintro rfl; rw [hb] at ha; cases ha; exact hne rfl
theorem ne_of_none {H : AH} {a b : Addr} {o : AO} (ha : H a = none) (hb : H b = some o) : a ≠ b := by
  rintro rfl; rw [hb] at ha; cases ha
theorem none_of_put {H : AH} {a b : Addr} {o : AO} (h : H.put a o b = none) : H b = none ∧ b ≠ a := by
  by_cases e : b = a
  · subst e; rw [put_self] at h; cases h
  · rw [put_ne e] at h; exact ⟨h, e⟩

noncomputable def AO.isTup : AO → Bool
  | .tup _ => true
  | _ => false
noncomputable def Same (S E : Addr → Prop) (H H' : AH) : Prop := ∀ b o, H b = some o → (S b ∨ E b ∨ o.isTup = true) → H' b = some o
theorem ExtR.same {H H' : AH} {S E : Addr → Prop} {R : Addr} {vs : List Value} (h : ExtR R H H') (hS : ¬ S R) (hE : ¬ E R) (hR : H R = some (.lst vs)) : Same S E H H' := fun b o e x => h.keep b o e (by
  rintro rfl
  rcases x with x | x | x
  · exact hS x
  · exact hE x
  · rw [hR] at e; cases e; cases x)
theorem Ext.same {H H' : AH} {S E : Addr → Prop} (h : Ext H H') : Same S E H H' := fun b o e _ => h b o e

/-! ## how the ledger bears the data -/
/-- the items of a list -/
noncomputable def Kids (R : T → Value → Prop) (vs : List Value) (its : Nat → T) : Prop := (∀ i v, vs[i]? = some v → R (its i) v) ∧ ∀ i, vs.length ≤ i → its i = .no
/-- the values of a dict -/
structure Dic (R : T → Value → Prop) (fs : List (Str × Value)) (ats : Str → T) : Prop where
  nodup : (fs.map (·.1)).Nodup
  some : ∀ x u, fs.lookup x = some u → R (ats x) u
  none : ∀ x, fs.lookup x = none → ats x = .no
inductive Attrs (w : Nat) (H : AH) (R : (Addr → Prop) → T → Value → Prop) (S S' : Addr → Prop) : Value → (Str → T) → Prop
  | none : Attrs w H R S S' .none noA
  | some {d : Addr} {fs : List (Str × Value)} {ep : Nat} {ats : Str → T} : H d = some (.dct fs ep) → S d → ¬ S' d → Dic (R S') fs ats → fs.length + w ≤ 60 → (1 ≤ w → NamesOk (ats (Str.ofString "names"))) → (2 ≤ w → ats (Str.ofString "unit") ≠ .no) → Attrs w H R S S' (.ref d) ats

noncomputable abbrev fKind (k : Kd) (t : Tok) : Str × Value := (Str.ofString "kind", .str k.str t)
noncomputable abbrev fVec (k : Kd) (t : Tok) (l : Addr) (av : Value) : List (Str × Value) := [fKind k t, (Str.ofString "items", .ref l), (Str.ofString "attrs", av), (Str.ofString "shared", .bool false), (Str.ofString "loose", .bool false)]
noncomputable abbrev fCall (t : Tok) (l g : Addr) (av : Value) : List (Str × Value) := [fKind .call t, (Str.ofString "items", .ref l), (Str.ofString "tags", .ref g), (Str.ofString "attrs", av), (Str.ofString "code", .none)]
noncomputable abbrev fEnv (t t' : Tok) (i : Int) (f l : Addr) : List (Str × Value) := [fKind .env t, (Str.ofString "number", .int i t'), (Str.ofString "parent", .none), (Str.ofString "attrs", .none), (Str.ofString "frame", .ref f), (Str.ofString "locked", .bool false), (Str.ofString "locks", .ref l)]
noncomputable abbrev fClo (t : Tok) (l : Addr) (bv : Value) (e : Addr) : List (Str × Value) := [fKind .clo t, (Str.ofString "formals", .ref l), (Str.ofString "body", bv), (Str.ofString "env", .ref e), (Str.ofString "attrs", .none)]
noncomputable abbrev fS4 (t t' : Tok) (x : Str) (d : Addr) : List (Str × Value) := [fKind .s4 t, (Str.ofString "name", .str x t'), (Str.ofString "slots", .ref d), (Str.ofString "attrs", .none)]
noncomputable abbrev fSym (t t' : Tok) (x : Str) : List (Str × Value) := [fKind .sym t, (Str.ofString "name", .str x t'), (Str.ofString "attrs", .none)]
noncomputable abbrev fNull (k : Kd) (t : Tok) : List (Str × Value) := [fKind k t, (Str.ofString "attrs", .none)]

/-- the formals of a closure -/
noncomputable def Formals (H : AH) (R : T → Value → Prop) (ps : List Value) (xs : List Str) (its : Nat → T) : Prop :=
  xs.length = ps.length ∧ (∀ i p, ps[i]? = some p → ∃ g x t u, p = .ref g ∧ H g = some (.tup [.str x t, u]) ∧ xs[i]? = some x ∧ R (its (i + 1)) u) ∧ ∀ i, ps.length ≤ i → its (i + 1) = .no

inductive Node (w : Nat) (E : Addr → Prop) (H : AH) (R : (Addr → Prop) → T → Value → Prop) (S : Addr → Prop) : T → Value → Prop
  | null {a : Addr} {t : Tok} : S a → H a = some (.inst 38 (fNull .null t)) → Node w E H R S (.node .null [] noI noA noA) (.ref a)
  | miss {a : Addr} {t : Tok} : S a → H a = some (.inst 59 (fNull .miss t)) → Node w E H R S (.node .miss [] noI noA noA) (.ref a)
  | sym {a : Addr} {t t' : Tok} {x : Str} : S a → H a = some (.inst 109 (fSym t t' x)) → (2 ≤ w → x.length ≤ 10 ∧ PyData.strOk x = true) → Node w E H R S (.node .sym [.str x] noI noA noA) (.ref a)
  | env {a f l : Addr} {t t' : Tok} {i : Int} : (S a ∨ E a) → H a = some (.inst 175 (fEnv t t' i f l)) → Node w E H R S (.node .env [.int i] noI noA noA) (.ref a)
  | leaf {k : Kd} {a l : Addr} {t : Tok} {av : Value} {vs : List Value} {ds : List Dat} {ats : Str → T} {S' : Addr → Prop} : k.isLeaf = true → (∀ b, S' b → S b) → S a → S l → ¬ S' a → ¬ S' l → H a = some (.inst 88 (fVec k t l av)) → H l = some (.lst vs) → LitsAre H vs ds → vs.length + w ≤ 900 → Attrs w H R S S' av ats → Node w E H R S (.node k ds noI noA ats) (.ref a)
  | list {k : Kd} {a l : Addr} {t : Tok} {av : Value} {vs : List Value} {its : Nat → T} {ats : Str → T} {S' : Addr → Prop} : k.isList = true → (∀ b, S' b → S b) → S a → S l → ¬ S' a → ¬ S' l → H a = some (.inst 88 (fVec k t l av)) → H l = some (.lst vs) → Kids (R S') vs its → vs.length + w ≤ 900 → Attrs w H R S S' av ats → Node w E H R S (.node k [] its noA ats) (.ref a)
  | call {a l g : Addr} {t : Tok} {av : Value} {vs ts : List Value} {ds : List Dat} {its : Nat → T} {ats : Str → T} {S' : Addr → Prop} : (∀ b, S' b → S b) → S a → S l → S g → l ≠ g → ¬ S' a → ¬ S' l → ¬ S' g → H a = some (.inst 131 (fCall t l g av)) → H l = some (.lst vs) → H g = some (.lst ts) → Kids (R S') vs its → LitsAre H ts ds → vs.length + w ≤ 900 → ts.length + w ≤ 900 → (2 ≤ w → vs ≠ [] ∧ av = .none ∧ ∃ ds', ds = .none :: ds') → Attrs w H R S S' av ats → Node w E H R S (.node .call ds its noA ats) (.ref a)
  | clo {a l e f f' : Addr} {t t' u' : Tok} {bv : Value} {i : Int} {ps : List Value} {xs : List Str} {its : Nat → T} {S' : Addr → Prop} : (∀ b, S' b → S b) → S a → S l → ¬ S' a → ¬ S' l → H a = some (.inst 153 (fClo t l bv e)) → H l = some (.lst ps) → Formals H (R S') ps xs its → R S' (its 0) bv → ((S e ∧ a ≠ e) ∨ E e) → (2 ≤ w → E e) → H e = some (.inst 175 (fEnv t' u' i f f')) → ps.length + w ≤ 900 → Node w E H R S (.node .clo (.int i :: xs.map Dat.str) its noA noA) (.ref a)
  | s4 {a d : Addr} {t t' : Tok} {x : Str} {fs : List (Str × Value)} {ep : Nat} {sls : Str → T} {S' : Addr → Prop} : (∀ b, S' b → S b) → S a → S d → ¬ S' a → ¬ S' d → H a = some (.inst 196 (fS4 t t' x d)) → H d = some (.dct fs ep) → Dic (R S') fs sls → fs.length + w ≤ 60 → (2 ≤ w → x.length ≤ 10 ∧ (fs = [] ∨ sls (Str.ofString "a") ≠ .no)) → Node w E H R S (.node .s4 [.str x] noI sls noA) (.ref a)

noncomputable def Rep (w : Nat) (E : Addr → Prop) (H : AH) : Nat → (Addr → Prop) → T → Value → Prop
  | 0 => fun _ _ _ => False
  | n + 1 => Node w E H (Rep w E H n)

/-! ## it stays -/
section
variable {w w' : Nat} {E S S2 : Addr → Prop} {H H' : AH} {R R' : (Addr → Prop) → T → Value → Prop}
noncomputable def Live (H : AH) (S : Addr → Prop) : Addr → Prop := fun b => S b ∧ H b ≠ none
theorem live_of {a : Addr} {o : AO} (hs : S a) (h : H a = some o) : Live H S a := ⟨hs, by rw [h]; exact fun e => nomatch e⟩
theorem Kids.mono {R R' : T → Value → Prop} {vs : List Value} {its : Nat → T} (h : Kids R vs its) (hR : ∀ t v, R t v → R' t v) : Kids R' vs its := ⟨fun i v e => hR _ _ (h.1 i v e), h.2⟩
theorem Dic.mono {R R' : T → Value → Prop} {fs : List (Str × Value)} {ats : Str → T} (h : Dic R fs ats) (hR : ∀ t v, R t v → R' t v) : Dic R' fs ats := ⟨h.nodup, fun x u e => hR _ _ (h.some x u e), h.none⟩
theorem Attrs.mono {S' : Addr → Prop} {av : Value} {ats : Str → T} (h : Attrs w H R S S' av ats) (hsub : ∀ b, S' b → S b) (hR : ∀ t v, R S' t v → R' (Live H S') t v) (hH : Same S E H H') (hS : ∀ b, Live H S b → S2 b) (hw : w' ≤ w) : Attrs w' H' R' S2 (Live H S') av ats := by
  cases h with
  | none => exact .none
  | some h1 h2 h3 h4 h5 h6 h7 => exact .some (hH _ _ h1 (.inl h2)) (hS _ (live_of h2 h1)) (fun x => h3 x.1) (h4.mono hR) (by omega) (fun x => h6 (by omega)) fun x => h7 (by omega)
theorem tups (hH : Same S E H H') : ∀ a vs, H a = some (.tup vs) → H' a = some (.tup vs) := fun a vs h => hH _ _ h (.inr (.inr rfl))
theorem Node.mono {t : T} {v : Value} (h : Node w E H R S t v) (hR : ∀ S' t v, (∀ b, S' b → S b) → R S' t v → R' (Live H S') t v) (hH : Same S E H H') (hS : ∀ b, Live H S b → S2 b) (hw : w' ≤ w) : Node w' E H' R' S2 t v := by
  have sub : ∀ {S' : Addr → Prop}, (∀ b, S' b → S b) → ∀ b, Live H S' b → S2 b := fun hs b x => hS b ⟨hs b x.1, x.2⟩
  have get : ∀ {b o}, H b = some o → S b → H' b = some o := fun h hs => hH _ _ h (.inl hs)
  have to2 : ∀ {b o}, H b = some o → S b → S2 b := fun h hs => hS _ (live_of hs h)
  cases h with
  | null a h => exact .null (to2 h a) (get h a)
  | miss a h => exact .miss (to2 h a) (get h a)
  | sym a h x => exact .sym (to2 h a) (get h a) fun y => x (by omega)
  | env a h => exact .env (a.imp_left (to2 h)) (hH _ _ h (a.imp_right .inl))
  | leaf hk hs a l na nl h1 h2 h3 h4 h5 => exact .leaf hk (sub hs) (to2 h1 a) (to2 h2 l) (fun x => na x.1) (fun x => nl x.1) (get h1 a) (get h2 l) (h3.mono (tups hH)) (by omega) (h5.mono hs (hR _ · · hs) hH hS hw)
  | list hk hs a l na nl h1 h2 h3 h4 h5 => exact .list hk (sub hs) (to2 h1 a) (to2 h2 l) (fun x => na x.1) (fun x => nl x.1) (get h1 a) (get h2 l) (h3.mono (hR _ · · hs)) (by omega) (h5.mono hs (hR _ · · hs) hH hS hw)
  | call hs a l g ng na nl ng2 h1 h2 h3 h4 h5 h6 h7 h8 h9 => exact .call (sub hs) (to2 h1 a) (to2 h2 l) (to2 h3 g) ng (fun x => na x.1) (fun x => nl x.1) (fun x => ng2 x.1) (get h1 a) (get h2 l) (get h3 g) (h4.mono (hR _ · · hs)) (h5.mono (tups hH)) (by omega) (by omega) (fun y => h8 (by omega)) (h9.mono hs (hR _ · · hs) hH hS hw)
  | clo hs a l na nl h1 h2 h3 h4 h5 h6 h7 h8 =>
    refine .clo (sub hs) (to2 h1 a) (to2 h2 l) (fun x => na x.1) (fun x => nl x.1) (get h1 a) (get h2 l) ⟨h3.1, fun i p e => ?_, h3.2.2⟩ (hR _ _ _ hs h4) (h5.imp_left fun x => ⟨to2 h7 x.1, x.2⟩) (fun y => h6 (by omega)) (hH _ _ h7 (h5.imp (·.1) .inl)) (by omega)
    obtain ⟨g, x, t, u, e1, e2, e3, e4⟩ := h3.2.1 i p e
    exact ⟨g, x, t, u, e1, tups hH _ _ e2, e3, hR _ _ _ hs e4⟩
  | s4 hs a d na nd h1 h2 h3 h4 h5 => exact .s4 (sub hs) (to2 h1 a) (to2 h2 d) (fun x => na x.1) (fun x => nd x.1) (get h1 a) (get h2 d) (h3.mono (hR _ · · hs)) (by omega) fun y => h5 (by omega)
theorem Rep.mono (hw : w' ≤ w) : ∀ {n n' : Nat} {S S2 : Addr → Prop} {t : T} {v : Value}, Rep w E H n S t v → n ≤ n' → Same S E H H' → (∀ b, Live H S b → S2 b) → Rep w' E H' n' S2 t v
  | 0, _, _, _, _, _, h, _, _, _ => h.elim
  | n + 1, 0, _, _, _, _, _, hn, _, _ => absurd hn (Nat.not_succ_le_zero _)
  | n + 1, n' + 1, S, S2, t, v, h, hn, hH, hS =>
    Node.mono (h : Node w E H (Rep w E H n) S t v) (fun S' t v hs r => Rep.mono hw r (Nat.le_of_succ_le_succ hn) (fun b o e x => hH b o e (x.imp_left (hs b))) fun _ x => x) hH hS hw
theorem Rep.ext {n : Nat} {t : T} {v : Value} (h : Rep w E H n S t v) (e : Ext H H') : Rep w E H' n S t v := h.mono (Nat.le_refl _) (Nat.le_refl _) e.same fun _ x => x.1
theorem Rep.up {n n' : Nat} {t : T} {v : Value} (h : Rep w E H n S t v) (hn : n ≤ n') : Rep w E H n' S t v := h.mono (Nat.le_refl _) hn Ext.refl.same fun _ x => x.1
theorem Rep.weak {n : Nat} {t : T} {v : Value} (h : Rep w E H n S t v) (hw : w' ≤ w) : Rep w' E H n S t v := h.mono hw (Nat.le_refl _) Ext.refl.same fun _ x => x.1
theorem Rep.ne {n : Nat} {v : Value} (h : Rep w E H n S .no v) : False := by
  cases n with
  | zero => exact h
  | succ n => cases (h : Node w E H (Rep w E H n) S .no v)
theorem Node.ext {n : Nat} {t : T} {v : Value} (h : Node w E H (Rep w E H n) S t v) (e : Ext H H') : Node w E H' (Rep w E H' n) S t v := (show Rep w E H (n + 1) S t v from h).ext e
/-- what all values share -/
structure Head (H : AH) (v : Value) (k : Kd) (a : Addr) (fs : List (Str × Value)) (tk : Tok) (av : Value) : Prop where
  v : v = .ref a
  at_ : H a = some (.inst k.cls fs)
  kind : fs.lookup (Str.ofString "kind") = some (.str k.str tk)
  attrs : fs.lookup (Str.ofString "attrs") = some av
theorem Node.head {t : T} {v : Value} (h : Node w E H R S t v) : ∃ k ds its sls ats a fs tk av S', t = .node k ds its sls ats ∧ Head H v k a fs tk av ∧ (∀ b, S' b → S b) ∧ Attrs w H R S S' av ats := by
  cases h with
  | null a h => exact ⟨_, _, _, _, _, _, _, _, _, S, rfl, ⟨rfl, h, rfl, rfl⟩, fun _ x => x, .none⟩
  | miss a h => exact ⟨_, _, _, _, _, _, _, _, _, S, rfl, ⟨rfl, h, rfl, rfl⟩, fun _ x => x, .none⟩
  | sym a h x => exact ⟨_, _, _, _, _, _, _, _, _, S, rfl, ⟨rfl, h, rfl, rfl⟩, fun _ x => x, .none⟩
  | env a h => exact ⟨_, _, _, _, _, _, _, _, _, S, rfl, ⟨rfl, h, rfl, rfl⟩, fun _ x => x, .none⟩
  | leaf hk hs a l na nl h1 h2 h3 h4 h5 => exact ⟨_, _, _, _, _, _, _, _, _, _, rfl, ⟨rfl, by rw [(Kd.leafV hk).1]; exact h1, rfl, rfl⟩, hs, h5⟩
  | list hk hs a l na nl h1 h2 h3 h4 h5 => exact ⟨_, _, _, _, _, _, _, _, _, _, rfl, ⟨rfl, by rw [(Kd.listV hk).1]; exact h1, rfl, rfl⟩, hs, h5⟩
  | call hs a l g ng na nl ng2 h1 h2 h3 h4 h5 h6 h7 h8 h9 => exact ⟨_, _, _, _, _, _, _, _, _, _, rfl, ⟨rfl, h1, rfl, rfl⟩, hs, h9⟩
  | clo hs a l na nl h1 h2 h3 h4 h5 h6 h7 h8 => exact ⟨_, _, _, _, _, _, _, _, _, S, rfl, ⟨rfl, h1, rfl, rfl⟩, fun _ x => x, .none⟩
  | s4 hs a d na nd h1 h2 h3 h4 h5 => exact ⟨_, _, _, _, _, _, _, _, _, S, rfl, ⟨rfl, h1, rfl, rfl⟩, fun _ x => x, .none⟩
end
end Mine
namespace Mine
/-! ## room -/
noncomputable def Room (c : Cx K) (j : Nat) : Prop := c.A.depth + j ≤ 1000 ∧ c.A.units + 4 * j + 100 ≤ 9900
theorem Room.mono {c : Cx K} {i j : Nat} (h : Room c j) (e : i ≤ j) : Room c i := ⟨by have := h.1; omega, by have := h.2; omega⟩
theorem Room.lt {c : Cx K} {j : Nat} (h : Room c (j + 1)) : c.A.depth < recursionLimit := by have := h.1; show _ < 1000; omega
theorem Room.sub {c c' : Cx K} {j : Nat} {sc : Scope} {cl : List (Str × Addr)} (h : Room c (j + 1)) (s : Sub c c' c.A sc cl) : Room c' j := by
  have := h.1; have := h.2
  constructor
  · rw [s.depth]; omega
  · rw [s.units]; omega
theorem Room.line {c : Cx K} {j : Nat} (h : Room c j) : c.A.units < cLine := by have := h.2; show _ < 9900; omega
theorem Room.line64 {c : Cx K} {j : Nat} (h : Room c j) : c.A.units + 64 < cLine := by have := h.2; show _ < 9900; omega

section
variable {c : Cx K} {m : Loc} {H : AH} {Q : Value → AH → Prop}
theorem ok_kind (P : Params) (k : Kd) : attrOk (K P) k.cls (Str.ofString "kind") = true := by cases k <;> kernel_rfl
theorem ok_attrs (P : Params) (k : Kd) : attrOk (K P) k.cls (Str.ofString "attrs") = true := by cases k <;> kernel_rfl
theorem we_kind {v : Value} {k : Kd} {a : Addr} {fs : List (Str × Value)} {tk : Tok} {av : Value} {ex : Bool} (h : Head H v k a fs tk av) (q : Q (.str k.str tk) H) : WE c (getAttr v (Str.ofString "kind") ex) m H Q := by
  rw [h.v]; exact we_getA h.at_ (ok_kind _ k) h.kind rfl q
theorem we_attrs {v : Value} {k : Kd} {a : Addr} {fs : List (Str × Value)} {tk : Tok} {av : Value} {ex : Bool} (h : Head H v k a fs tk av) (hv : handedIn av = true) (q : Q av H) : WE c (getAttr v (Str.ofString "attrs") ex) m H Q := by
  rw [h.v]; exact we_getA h.at_ (ok_attrs _ k) h.attrs hv q
theorem Attrs.handed {w : Nat} {R : (Addr → Prop) → T → Value → Prop} {S S' : Addr → Prop} {av : Value} {ats : Str → T} (h : Attrs w H R S S' av ats) : handedIn av = true := by cases h <;> rfl
theorem Head.ext {H H' : AH} {v : Value} {k : Kd} {a : Addr} {fs : List (Str × Value)} {tk : Tok} {av : Value} (h : Head H v k a fs tk av) (e : Ext H H') : Head H' v k a fs tk av := ⟨h.v, e _ _ h.at_, h.kind, h.attrs⟩
theorem isV_no (P : Params) : ∀ (k : Kd) (h : k.isVec = false), isNo (K P) k.cls 88 = true
  | .null, _ => by kernel_rfl
  | .miss, _ => by kernel_rfl
  | .sym, _ => by kernel_rfl
  | .env, _ => by kernel_rfl
  | .call, _ => by kernel_rfl
  | .clo, _ => by kernel_rfl
  | .s4, _ => by kernel_rfl
theorem we_isV {v : Value} {k : Kd} {a : Addr} {fs : List (Str × Value)} {tk : Tok} {av : Value} (h : Head H v k a fs tk av) (q : Q (.bool k.isVec) H) : WE c (call (.builtin "isinstance") ([] ++ [v, .ref 88])) m H Q := by
  have at_ := h.at_
  rw [h.v]
  cases e : k.isVec with
  | false => rw [e] at q; exact we_isiF at_ (isV_no _ k e) q
  | true =>
    rw [e] at q
    have : k.cls = 88 := by cases k <;> first | rfl | cases e
    rw [this] at at_
    exact we_isiT at_ (by kernel_rfl) q
theorem str_eq {k k' : Kd} (h : (k.str == k'.str) = true) : k = k' := Kd.inj (beq_iff_eq.mp h)
theorem str_ne {k k' : Kd} (h : (k.str == k'.str) = false) : k ≠ k' := fun e => by subst e; rw [beq_self_eq_true] at h; cases h
theorem kd_beq (k k' : Kd) {x : Str} (e : k'.str = x) : (k.str == x) = true ↔ k = k' := by
  rw [← e, beq_iff_eq]; exact ⟨Kd.inj, congrArg _⟩

section
variable {f : Addr} {params : Arguments} {body body' : List Stmt} {sc : Scope} {dV : Value} {j : Nat}
theorem fun_in {args : List Value} {binds m1 : Loc} (fn : FnIs (K c.w.params) f params body sc dV) (room : Room c (j + 1)) (hb : body = body') (hm : binds.reverse = m1) (hcell : sc.names.all (fun x => x.2 != .cell) = true)
    (hloc : binds.all (fun y => sc.names.lookup y.1 == some .local) = true)
    (hbind : ∀ s, (K c.w.params).In s.heap → ∀ name qual kV doc pm an cdv ct, BindsTo s (fnX name qual params body sc [] dV kV doc pm an cdv ct) ⟨args, []⟩ binds)
    (h : ∀ c' : Cx K, EnvIs c' sc [] c'.L → Room c' j → WS c' (execs body' c'.env) m1 H fun fl _ H' => Q (retv fl) H') : WE c (call (.ref f) args) m H Q := by
  subst hb hm
  exact ws_fun fn room.lt hcell hloc hbind fun c' s => h c' s.env (room.sub s)
theorem fun_in1 (x : Str) {u : Value} (fn : FnIs (K c.w.params) f params body sc dV) (room : Room c (j + 1)) (hb : body = body') (hcell : sc.names.all (fun x => x.2 != .cell) = true)
    (hloc : [x].all (fun y => sc.names.lookup y == some .local) = true)
    (hbind : ∀ name qual kV doc pm an cdv ct, bindArgs (fnX name qual params body sc [] dV kV doc pm an cdv ct) ⟨[u], []⟩ = pure [(x, u)])
    (h : ∀ c' : Cx K, EnvIs c' sc [] c'.L → Room c' j → WS c' (execs body' c'.env) [(x, u)] H fun fl _ H' => Q (retv fl) H') : WE c (call (.ref f) [u]) m H Q :=
  fun_in fn room hb rfl hcell hloc (fun s _ _ _ _ _ _ _ _ _ => BindsTo.of_eq (hbind ..)) h
theorem fun_in2 (x y : Str) {u v : Value} (fn : FnIs (K c.w.params) f params body sc dV) (room : Room c (j + 1)) (hb : body = body') (hcell : sc.names.all (fun x => x.2 != .cell) = true)
    (hloc : [x, y].all (fun y => sc.names.lookup y == some .local) = true)
    (hbind : ∀ name qual kV doc pm an cdv ct, bindArgs (fnX name qual params body sc [] dV kV doc pm an cdv ct) ⟨[u, v], []⟩ = pure [(x, u), (y, v)])
    (h : ∀ c' : Cx K, EnvIs c' sc [] c'.L → Room c' j → WS c' (execs body' c'.env) [(y, v), (x, u)] H fun fl _ H' => Q (retv fl) H') : WE c (call (.ref f) [u, v]) m H Q :=
  fun_in fn room hb rfl hcell hloc (fun s _ _ _ _ _ _ _ _ _ => BindsTo.of_eq (hbind ..)) h
theorem fun_in3 (x y z : Str) {u v w : Value} (fn : FnIs (K c.w.params) f params body sc dV) (room : Room c (j + 1)) (hb : body = body') (hcell : sc.names.all (fun x => x.2 != .cell) = true)
    (hloc : [x, y, z].all (fun y => sc.names.lookup y == some .local) = true)
    (hbind : ∀ name qual kV doc pm an cdv ct, bindArgs (fnX name qual params body sc [] dV kV doc pm an cdv ct) ⟨[u, v, w], []⟩ = pure [(x, u), (y, v), (z, w)])
    (h : ∀ c' : Cx K, EnvIs c' sc [] c'.L → Room c' j → WS c' (execs body' c'.env) [(z, w), (y, v), (x, u)] H fun fl _ H' => Q (retv fl) H') : WE c (call (.ref f) [u, v, w]) m H Q :=
  fun_in fn room hb rfl hcell hloc (fun s _ _ _ _ _ _ _ _ _ => BindsTo.of_eq (hbind ..)) h
end

theorem turn_ret {J : Loc → AH → Prop} {Q : Flow → Loc → AH → Prop} {v : Value} (h : Q (.ret v) m H) : Turn c J Q (.ret v) m H := h
theorem turn_next {J : Loc → AH → Prop} {Q : Flow → Loc → AH → Prop} (h : J m H) : Turn c J Q .next m H := h

/-! ## two dicts, two lists -/
theorem sub_len : ∀ {l l' : List Str}, l.Nodup → (∀ x ∈ l, x ∈ l') → l.length ≤ l'.length
  | [], _, _, _ => Nat.zero_le _
  | x :: l, l', hn, hs => by
    have hn' := List.nodup_cons.mp hn
    have h1 := sub_len (l' := l'.erase x) hn'.2 fun y hy => (List.mem_erase_of_ne (fun e => hn'.1 (by rw [← e]; exact hy))).mpr (hs y (.tail _ hy))
    rw [List.length_erase_of_mem (hs x (.head _))] at h1
    have := List.length_pos_of_mem (hs x (.head _))
    simp only [List.length_cons]
    omega
theorem lookup_mem {fs : List (Str × Value)} {x : Str} : (fs.lookup x).isSome = true ↔ x ∈ fs.map (·.1) := by
  induction fs with
  | nil => exact ⟨fun h => (nomatch h), fun h => (nomatch h)⟩
  | cons p r ih =>
    obtain ⟨y, v⟩ := p
    rw [List.lookup_cons]
    cases e : (x == y) with
    | true => exact ⟨fun _ => by rw [beq_iff_eq.mp e]; exact .head _, fun _ => rfl⟩
    | false =>
      simp only [ih, List.map_cons, List.mem_cons]
      exact ⟨.inr, fun h => h.resolve_left (beq_eq_false_iff_ne.mp e)⟩
theorem lookup_at {fs : List (Str × Value)} (hn : (fs.map (·.1)).Nodup) {j : Nat} {x : Str} {u : Value} (h : fs[j]? = some (x, u)) : fs.lookup x = some u := by
  induction fs generalizing j with
  | nil => simp at h
  | cons p r ih =>
    obtain ⟨y, v⟩ := p
    have hn' := List.nodup_cons.mp hn
    rw [List.lookup_cons]
    cases j with
    | zero => simp only [List.getElem?_cons_zero, Option.some.injEq, Prod.mk.injEq] at h; rw [h.1, h.2, beq_self_eq_true]
    | succ j =>
      have h' : r[j]? = some (x, u) := h
      have : x ≠ y := fun e => hn'.1 (by rw [← e]; exact List.mem_map.mpr ⟨(x, u), List.mem_of_getElem? h', rfl⟩)
      rw [beq_eq_false_iff_ne.mpr this]
      exact ih hn'.2 h'
theorem dic_eq {R R' : T → Value → Prop} {fs fs' : List (Str × Value)} {ats ats' : Str → T} (h : Dic R fs ats) (h' : Dic R' fs' ats') (hl : fs.length = fs'.length) (hs : ∀ (j : Nat) x u, fs[j]? = some (x, u) → (fs'.lookup x).isSome = true ∧ ats x = ats' x) : ats = ats' := by
  have sub : ∀ x ∈ fs.map (·.1), x ∈ fs'.map (·.1) ∧ ats x = ats' x := fun x hx => by
    obtain ⟨p, hp, rfl⟩ := List.mem_map.mp hx
    obtain ⟨j, hj⟩ := List.mem_iff_getElem?.mp hp
    have := hs j p.1 p.2 hj
    exact ⟨lookup_mem.mp this.1, this.2⟩
  funext x
  cases e : fs.lookup x with
  | some u => exact (sub x (lookup_mem.mp (by rw [e]; rfl))).2
  | none =>
    rw [h.none x e]
    cases e' : fs'.lookup x with
    | none => rw [h'.none x e']
    | some u' =>
      have h1 : x ∈ fs'.map (·.1) := lookup_mem.mp (by rw [e']; rfl)
      have h2 : x ∉ fs.map (·.1) := fun hx => by have := lookup_mem.mpr hx; rw [e] at this; cases this
      have := sub_len (l := x :: fs.map (·.1)) (List.nodup_cons.mpr ⟨h2, h.nodup⟩) (fun y hy => by
        rcases List.mem_cons.mp hy with rfl | hy
        · exact h1
        · exact (sub y hy).1)
      simp only [List.length_cons, List.length_map] at this
      omega
theorem dic_le {R R' : T → Value → Prop} {fs fs' : List (Str × Value)} {ats : Str → T} (hno : ∀ v, ¬ R .no v) (h : Dic R fs ats) (h' : Dic R' fs' ats) : fs.length ≤ fs'.length := by
  have := sub_len h.nodup (l' := fs'.map (·.1)) (fun x hx => by
    have hx := lookup_mem.mpr hx
    refine lookup_mem.mp ?_
    obtain ⟨u, hu⟩ := Option.isSome_iff_exists.mp hx
    cases e : List.lookup x fs' with
    | some _ => rfl
    | none => exact (hno u (h'.none x e ▸ h.some x u hu)).elim)
  simpa only [List.length_map] using this
theorem dic_len {R R' : T → Value → Prop} {fs fs' : List (Str × Value)} {ats : Str → T} (hno : ∀ v, ¬ R .no v) (hno' : ∀ v, ¬ R' .no v) (h : Dic R fs ats) (h' : Dic R' fs' ats) : fs.length = fs'.length :=
  Nat.le_antisymm (dic_le hno h h') (dic_le hno' h' h)
theorem kids_eq {R R' : T → Value → Prop} {vs vs' : List Value} {its its' : Nat → T} (h : Kids R vs its) (h' : Kids R' vs' its') (hl : vs.length = vs'.length) (hs : ∀ j, j < vs.length → its j = its' j) : its = its' := by
  funext j
  by_cases hj : j < vs.length
  · exact hs j hj
  · rw [h.2 j (by omega), h'.2 j (by omega)]
theorem kids_le {R R' : T → Value → Prop} {vs vs' : List Value} {its : Nat → T} (hno : ∀ v, ¬ R .no v) (h : Kids R vs its) (h' : Kids R' vs' its) : vs.length ≤ vs'.length := by
  refine Nat.le_of_not_lt fun hlt => ?_
  have := h.1 vs'.length vs[vs'.length] (by simp [hlt])
  rw [h'.2 _ (Nat.le_refl _)] at this
  exact hno _ this
theorem kids_len {R R' : T → Value → Prop} {vs vs' : List Value} {its : Nat → T} (hno : ∀ v, ¬ R .no v) (hno' : ∀ v, ¬ R' .no v) (h : Kids R vs its) (h' : Kids R' vs' its) : vs.length = vs'.length :=
  Nat.le_antisymm (kids_le hno h h') (kids_le hno' h' h)
theorem Rep.no {w n : Nat} {E S : Addr → Prop} (v : Value) : ¬ Rep w E H n S .no v := Rep.ne

theorem Rep.handed {w n : Nat} {E S : Addr → Prop} {t : T} {v : Value} (h : Rep w E H n S t v) : handedIn v = true := by
  cases n with
  | zero => exact h.elim
  | succ n => cases (show Node w E H (Rep w E H n) S t v from h) <;> rfl

/-! ## what the defs of the comparison do -/
noncomputable def KerAt (n : Nat) : Prop := ∀ {c : Cx K} {m : Loc} {H : AH} {E S S' : Addr → Prop} {k : Kd} {ds ds' : List Dat} {its its' : Nat → T} {sls sls' ats ats' : Str → T} {u v : Value} {Q : Value → AH → Prop},
  Room c (3 * n + 4) → Node 0 E H (Rep 0 E H n) S (.node k ds its sls ats) u → Node 0 E H (Rep 0 E H n) S' (.node k ds' its' sls' ats') v →
  (∀ b H', Ext H H' → (b = true ↔ ds = ds' ∧ its = its' ∧ sls = sls') → Q (.bool b) H') → WE c (call (.ref 242) [u, v]) m H Q
noncomputable def AttrAt (n : Nat) : Prop := ∀ {c : Cx K} {m : Loc} {H : AH} {E S S' : Addr → Prop} {k : Kd} {ds ds' : List Dat} {its its' : Nat → T} {sls sls' ats ats' : Str → T} {u v : Value} {Q : Value → AH → Prop},
  Room c (3 * n + 4) → Node 0 E H (Rep 0 E H n) S (.node k ds its sls ats) u → Node 0 E H (Rep 0 E H n) S' (.node k ds' its' sls' ats') v →
  (∀ b H', Ext H H' → (b = true ↔ ats = ats') → Q (.bool b) H') → WE c (call (.ref 207) [u, v]) m H Q
noncomputable def IdAt (n : Nat) : Prop := ∀ {c : Cx K} {m : Loc} {H : AH} {E S S' : Addr → Prop} {t t' : T} {u v : Value} {Q : Value → AH → Prop},
  Room c (3 * n + 2) → Rep 0 E H n S t u → Rep 0 E H n S' t' v →
  (∀ b H', Ext H H' → (b = true ↔ t = t') → Q (.bool b) H') → WE c (call (.ref 249) [u, v]) m H Q
end
end Mine
namespace Mine
local macro_rules | `(tactic| wtm_at "lk") => `(tactic| first | with_reducible exact lk_here | with_reducible assumption | ((with_reducible refine' lk_next ?hlk ?hlr); (case hlk => kernel_rfl); (case hlr => wtm_at "lk")))
local macro_rules | `(tactic| wtm_at "hp") => `(tactic| first
  | with_reducible assumption
  | with_reducible exact put_self
  | ((with_reducible refine' put_old ?hpa ?hpb); (case hpa => with_reducible assumption); (case hpb => wtm_at "hp"))
  | ((with_reducible refine' Ext.get ?hpa ?hpb); (case hpa => with_reducible assumption); (case hpb => wtm_at "hp"))
  | ((with_reducible refine' put_diff ?hpa ?hpb ?hpc); (case hpa => wtm_at "hp"); (case hpb => wtm_at "hp"); (case hpc => exact fun hpx => nomatch hpx)))
local macro_rules | `(tactic| wtm_at "ex") => `(tactic| first
  | with_reducible assumption
  | with_reducible exact Ext.refl
  | ((with_reducible refine' Ext.put ?hxa ?hxb); (case hxb => with_reducible assumption); (case hxa => wtm_at "ex"))
  | ((with_reducible refine' Ext.new ?hxa ?hxb); (case hxb => with_reducible assumption); (case hxa => wtm_at "ex"))
  | ((with_reducible refine' Ext.del ?hxa ?hxb); (case hxb => with_reducible assumption); (case hxa => wtm_at "ex"))
  | ((with_reducible refine' Ext.trans ?hxa ?hxb); (case hxb => with_reducible assumption); (case hxa => wtm_at "ex")))
local macro_rules | `(tactic| wtm_at "ev") => `(tactic| first | with_reducible assumption | ((with_reducible refine' comp_env ?nce); (case nce => with_reducible assumption)))
local macro_rules | `(tactic| wtm_at "gl") => `(tactic| first
  | ((with_reducible refine' gl_Vector ?nme ?nmk ?_); (case nme => wtm_at "ev"); (case nmk => kernel_rfl))
  | ((with_reducible refine' gl_Null ?nme ?nmk ?_); (case nme => wtm_at "ev"); (case nmk => kernel_rfl))
  | ((with_reducible refine' gl_Missing ?nme ?nmk ?_); (case nme => wtm_at "ev"); (case nmk => kernel_rfl))
  | ((with_reducible refine' gl_Symbol ?nme ?nmk ?_); (case nme => wtm_at "ev"); (case nmk => kernel_rfl))
  | ((with_reducible refine' gl_Call ?nme ?nmk ?_); (case nme => wtm_at "ev"); (case nmk => kernel_rfl))
  | ((with_reducible refine' gl_Closure ?nme ?nmk ?_); (case nme => wtm_at "ev"); (case nmk => kernel_rfl))
  | ((with_reducible refine' gl_Environment ?nme ?nmk ?_); (case nme => wtm_at "ev"); (case nmk => kernel_rfl))
  | ((with_reducible refine' gl_S4Object ?nme ?nmk ?_); (case nme => wtm_at "ev"); (case nmk => kernel_rfl))
  | ((with_reducible refine' gl_same_attrs ?nme ?nmk ?_); (case nme => wtm_at "ev"); (case nmk => kernel_rfl))
  | ((with_reducible refine' gl_same_items ?nme ?nmk ?_); (case nme => wtm_at "ev"); (case nmk => kernel_rfl))
  | ((with_reducible refine' gl_same_formals ?nme ?nmk ?_); (case nme => wtm_at "ev"); (case nmk => kernel_rfl))
  | ((with_reducible refine' gl_same_slots ?nme ?nmk ?_); (case nme => wtm_at "ev"); (case nmk => kernel_rfl))
  | ((with_reducible refine' gl_same_kernel ?nme ?nmk ?_); (case nme => wtm_at "ev"); (case nmk => kernel_rfl))
  | ((with_reducible refine' gl_identical ?nme ?nmk ?_); (case nme => wtm_at "ev"); (case nmk => kernel_rfl))
  | ((with_reducible refine' gl_names_items ?nme ?nmk ?_); (case nme => wtm_at "ev"); (case nmk => kernel_rfl))
  | ((with_reducible refine' gl_same_code ?nme ?nmk ?_); (case nme => wtm_at "ev"); (case nmk => kernel_rfl))
  | ((with_reducible refine' gl_law_row ?nme ?nmk ?_); (case nme => wtm_at "ev"); (case nmk => kernel_rfl))
  | ((with_reducible refine' gl_law_next ?nme ?nmk ?_); (case nme => wtm_at "ev"); (case nmk => kernel_rfl))
  | ((with_reducible refine' gl_law_made ?nme ?nmk ?_); (case nme => wtm_at "ev"); (case nmk => kernel_rfl))
  | ((with_reducible refine' gl_law_again ?nme ?nmk ?_); (case nme => wtm_at "ev"); (case nmk => kernel_rfl))
  | ((with_reducible refine' gl_law_altered ?nme ?nmk ?_); (case nme => wtm_at "ev"); (case nmk => kernel_rfl))
  | ((with_reducible refine' gl_len ?nme ?nmk ?_); (case nme => wtm_at "ev"); (case nmk => kernel_rfl))
  | ((with_reducible refine' gl_range ?nme ?nmk ?_); (case nme => wtm_at "ev"); (case nmk => kernel_rfl))
  | ((with_reducible refine' gl_isinstance ?nme ?nmk ?_); (case nme => wtm_at "ev"); (case nmk => kernel_rfl))
  | ((with_reducible refine' gl_list ?nme ?nmk ?_); (case nme => wtm_at "ev"); (case nmk => kernel_rfl))
  | ((with_reducible refine' gl_sorted ?nme ?nmk ?_); (case nme => wtm_at "ev"); (case nmk => kernel_rfl)))
local macro_rules | `(tactic| wtm_at "nm") => `(tactic| first
  | ((with_reducible refine' we_local ?nme ?nmk ?nmv ?_); (case nmv => wtm_at "lk"); (case nme => wtm_at "ev"); (case nmk => kernel_rfl))
  | ((with_reducible refine' we_localD ?nme ?nmk ?nmd ?nmv ?_); (case nme => wtm_at "ev"); (case nmd => wtm_at "hp"); (case nmv => wtm_at "lk"); (case nmk => kernel_rfl))
  | ((with_reducible refine' we_cell ?nme ?nmk ?nmc ?nma ?_); (case nme => wtm_at "ev"); (case nmc => wtm_at "lk"); (case nma => wtm_at "hp"); (case nmk => kernel_rfl))
  | wtm_at "gl")
local macro_rules | `(tactic| wtm_at "e1") => `(tactic| first
  | with_reducible refine ws_nil ?_
  | with_reducible refine ws_cons ?_
  | with_reducible refine ws_if_ ?_
  | with_reducible refine ws_ret ?_
  | with_reducible refine after_ret ?_
  | with_reducible refine turn_ret ?_
  | with_reducible refine after_next ?_
  | ((with_reducible refine' ws_assign ?nme ?nmk ?nms ?_); (case nme => wtm_at "ev"); (case nmk => kernel_rfl!); (case nms => rfl))
  | ((with_reducible refine ws_setAttr ?hk ?_); (case hk => rfl))
  | ((with_reducible refine ws_setItem ?hk ?_); (case hk => rfl))
  | ((with_reducible refine' ws_expr ?nme ?nmk ?nms ?_); (case nme => wtm_at "ev"); (case nmk => kernel_rfl); (case nms => rfl))
  | ((with_reducible refine' we_setA ?hga ?hgo ?hgl ?_); (case hga => wtm_at "hp"); (case hgl => exact Nat.le_of_ble_eq_true rfl); (case hgo => kernel_rfl))
  | ((with_reducible refine we_tCompare ?_ ?hk); (case hk => rfl))
  | with_reducible refine we_tNot ?_
  | with_reducible refine we_tAndNil ?_
  | with_reducible refine we_tOrNil ?_
  | with_reducible refine we_tAnd ?_
  | with_reducible refine we_tOr ?_
  | ((with_reducible refine we_tPlain ?_ ?hk); (case hk => rfl))
  | ((with_reducible refine we_compare ?_ ?hk); (case hk => rfl))
  | with_reducible refine we_binOp ?_
  | with_reducible refine we_ifExp ?_
  | ((with_reducible refine' we_meth ?_ ?hk); (case hk => rfl))
  | ((with_reducible refine we_call ?_ ?hk); (case hk => rfl))
  | (with_reducible refine we_callB0 ?_)
  | ((with_reducible refine we_callB ?_ ?hk2 ?hk3); (case hk2 => rfl); (case hk3 => rfl))
  | ((with_reducible refine we_callT ?_ ?hk2 ?hk3); (case hk2 => rfl); (case hk3 => rfl))
  | ((with_reducible refine we_callK0 ?hk ?_); (case hk => kernel_rfl))
  | ((with_reducible refine we_callK ?hk ?_ ?hk2 ?hk3); (case hk => first | with_reducible assumption | kernel_rfl); (case hk2 => rfl); (case hk3 => rfl))
  | (with_reducible refine args_nil ?_)
  | (with_reducible refine pairs_cons ?_)
  | (with_reducible refine pairs_nil ?_)
  | ((with_reducible refine args_cons ?_ ?hk); (case hk => rfl))
  | (with_reducible refine we_int fun _ => ?_)
  | (with_reducible refine we_str fun _ => ?_)
  | with_reducible refine we_none ?_
  | with_reducible refine we_bool ?_
  | with_reducible refine we_sub ?_
  | ((with_reducible refine we_attrAny ?_ ?hk); (case hk => rfl))
  | with_reducible refine we_list ?_
  | with_reducible refine we_tuple ?_
  | with_reducible refine we_and1 ?_
  | with_reducible refine we_and ?_
  | with_reducible refine we_or ?_
  | with_reducible refine we_unary ?_
  | ((with_reducible show WE _ (eval (Expr.Name _ _) _) _ _ _); wtm_at "nm")
  | ((with_reducible refine' we_getA ?hga ?hgo ?hgl ?hgv ?_); (case hga => wtm_at "hp"); (case hgl => wtm_at "lk"); (case hgo => kernel_rfl); (case hgv => first | with_reducible assumption | rfl))
  | with_reducible refine ⟨_, rfl, ?_⟩
  | with_reducible refine ⟨rfl, ?_⟩)
local macro_rules | `(tactic| wtm_at "whnf") => `(tactic| (conv => lhs; whnf))
local macro_rules | `(tactic| wtm_at "xr") => `(tactic| first
  | with_reducible assumption
  | with_reducible exact ExtR.refl
  | ((with_reducible refine' ExtR.put ?hxa ?hxb); (case hxb => with_reducible assumption); (case hxa => wtm_at "xr"))
  | ((with_reducible refine' ExtR.new ?hxa ?hxb); (case hxb => with_reducible assumption); (case hxa => wtm_at "xr"))
  | ((with_reducible refine' ExtR.del ?hxa ?hxb); (case hxb => with_reducible assumption); (case hxa => wtm_at "xr"))
  | ((with_reducible refine' ExtR.trans ?hxa ?hxb); (case hxb => with_reducible assumption); (case hxa => wtm_at "xr"))
  | ((with_reducible refine' ExtR.ext ?hxa ?hxb); (case hxb => with_reducible assumption); (case hxa => wtm_at "xr")))
theorem Node.env_ats {w : Nat} {E : Addr → Prop} {H : AH} {R : (Addr → Prop) → T → Value → Prop} {S : Addr → Prop} {ds : List Dat} {its : Nat → T} {sls ats : Str → T} {v : Value} (h : Node w E H R S (.node .env ds its sls ats) v) : ats = noA := by
  cases h with
  | leaf hk => cases hk
  | list hk => cases hk
  | env => rfl
theorem id_step {n : Nat} (hk : KerAt n) (ha : AttrAt n) : IdAt (n + 1) := by
  intro c m H E S S' t t' u v Q room hu hv q
  replace hu : Node 0 E H (Rep 0 E H n) S t u := hu
  replace hv : Node 0 E H (Rep 0 E H n) S' t' v := hv
  have hu' := hu.head
  have hv' := hv.head
  obtain ⟨k, ds, its, sls, ats, a, fs, tk, av, S1, rfl, ku, -⟩ := hu'
  obtain ⟨k', ds', its', sls', ats', a', fs', tk', av', S1', rfl, kv, -⟩ := hv'
  refine fun_in2 (Str.ofString "u") (Str.ofString "v") (fn_identical _) room (by wtm_at "whnf") (by kernel_rfl) (by kernel_rfl) (fun _ _ _ _ _ _ _ _ => rfl) fun c' e room => ?_
  repeat wtm_at "e1"
  refine we_kind ku ?_
  repeat wtm_at "e1"
  refine we_kind kv ?_
  refine we_neS ?_
  repeat wtm_at "e1"
  refine ite_b (fun hb => ?_) fun hb => ?_
  · repeat wtm_at "e1"
    refine q false H Ext.refl ⟨fun x => (nomatch x), fun x => ?_⟩
    cases x
    simp only [bne_self_eq_false] at hb
    cases hb
  · have hkk : k = k' := by
      rw [bne_eq_false_iff_eq] at hb
      exact Kd.inj hb
    subst hkk
    repeat wtm_at "e1"
    refine hk (room.mono (by omega)) hu hv fun b H1 e1 hb1 => ?_
    refine ⟨b, rfl, ite_b (fun hbb => ?_) fun hbb => ?_⟩
    · repeat wtm_at "e1"
      refine we_kind (ku.ext e1) ?_
      repeat wtm_at "e1"
      refine we_eqS ?_
      repeat wtm_at "e1"
      refine ite_b (fun he => ?_) fun he => ?_
      · repeat wtm_at "e1"
        obtain rfl := (kd_beq k .env rfl).mp he
        have ea : ats = ats' := by rw [hu.env_ats, hv.env_ats]
        exact q _ _ e1 (Iff.trans (b := _ ∧ _ ∧ _) ⟨fun _ => ⟨rfl, hb1.mp hbb, ea⟩, fun _ => rfl⟩ node_eq.symm)
      · repeat wtm_at "e1"
        refine ha (room.mono (by omega)) (hu.ext e1) (hv.ext e1) fun b2 H2 e2 hb2 => ?_
        repeat wtm_at "e1"
        exact q _ _ (e1.trans e2) (Iff.trans (b := _ ∧ _ ∧ _) ⟨fun x => ⟨rfl, hb1.mp hbb, hb2.mp x⟩, fun x => hb2.mpr x.2.2⟩ node_eq.symm)
    · repeat wtm_at "e1"
      refine q _ _ e1 (Iff.trans (b := _ ∧ _ ∧ _) ⟨fun x => (nomatch x), fun x => ?_⟩ node_eq.symm)
      rw [hb1.mpr x.2.1] at hbb
      cases hbb
theorem attr_step {n : Nat} (hi : IdAt n) : AttrAt n := by
  intro c m H E S S' k ds ds' its its' sls sls' ats ats' u v Q room hu hv q
  obtain ⟨_, _, _, _, _, a, fs, tk, av, S1, te, ku, -, hau⟩ := hu.head
  cases te
  obtain ⟨_, _, _, _, _, a', fs', tk', av', S1', te, kv, -, hav⟩ := hv.head
  cases te
  refine fun_in2 (Str.ofString "u") (Str.ofString "v") (fn_same_attrs _) (j := 3 * n + 3) room (by wtm_at "whnf") (by kernel_rfl) (by kernel_rfl) (fun _ _ _ _ _ _ _ _ => rfl) fun c' e room => ?_
  wtm_at "e1"
  wtm_at "e1"
  refine WE.mono (Q := fun r H1 => ∃ d fd ep, r = .ref d ∧ Ext H H1 ∧ H1 d = some (.dct fd ep) ∧ Dic (Rep 0 E H1 n S1) fd ats ∧ fd.length ≤ 60) ?_ ?_
  · repeat wtm_at "e1"
    refine we_attrs ku hau.handed ?_
    repeat wtm_at "e1"
    refine we_isNone ?_
    repeat wtm_at "e1"
    cases hau with
    | none =>
      refine ite_b (fun _ => ?_) fun hb => (nomatch hb)
      refine we_dictNil fun ep d hd => ?_
      exact ⟨d, [], ep, rfl, Ext.new Ext.refl hd, put_self, ⟨.nil, fun _ _ h => (nomatch h), fun _ _ => rfl⟩, Nat.zero_le _⟩
    | some h1 h2 h3 h4 h5 h6 h7 =>
      refine ite_b (fun hb => (nomatch hb)) fun _ => ?_
      repeat wtm_at "e1"
      refine we_attrs ku rfl ?_
      exact ⟨_, _, _, rfl, Ext.refl, h1, h4, h5⟩
  rintro r H1 ⟨d, fd, ep, rfl, e1, hd, dd, hz⟩
  wtm_at "e1"
  wtm_at "e1"
  wtm_at "e1"
  refine WE.mono (Q := fun r H2 => ∃ d fd ep, r = .ref d ∧ Ext H1 H2 ∧ H2 d = some (.dct fd ep) ∧ Dic (Rep 0 E H2 n S1') fd ats' ∧ fd.length ≤ 60) ?_ ?_
  · repeat wtm_at "e1"
    refine we_attrs (kv.ext e1) hav.handed ?_
    repeat wtm_at "e1"
    refine we_isNone ?_
    repeat wtm_at "e1"
    cases hav with
    | none =>
      refine ite_b (fun _ => ?_) fun hb => (nomatch hb)
      refine we_dictNil fun ep d hd => ?_
      exact ⟨d, [], ep, rfl, Ext.new Ext.refl hd, put_self, ⟨.nil, fun _ _ h => (nomatch h), fun _ _ => rfl⟩, Nat.zero_le _⟩
    | some h1 h2 h3 h4 h5 h6 h7 =>
      refine ite_b (fun hb => (nomatch hb)) fun _ => ?_
      repeat wtm_at "e1"
      refine we_attrs (kv.ext e1) rfl ?_
      exact ⟨_, _, _, rfl, Ext.refl, e1 _ _ h1, h4.mono fun t v h => h.ext e1, h5⟩
  rintro r H2 ⟨d', fd', ep', rfl, e2, hd', dd', hz'⟩
  replace dd := dd.mono fun t v h => h.ext e2
  replace hd := e2 _ _ hd
  have eH := e1.trans e2
  repeat wtm_at "e1"
  refine we_lenD hd dd.nodup (by omega) fun t1 => ?_
  repeat wtm_at "e1"
  refine we_lenD hd' dd'.nodup (by omega) fun t2 => ?_
  refine we_neI ?_
  repeat wtm_at "e1"
  refine ite_b (fun hb => ?_) fun hb => ?_
  · repeat wtm_at "e1"
    refine q _ _ eH ⟨fun x => (nomatch x), fun x => ?_⟩
    subst x
    rw [dic_len Rep.no Rep.no dd dd', bne_self_eq_false] at hb
    cases hb
  have hlen : fd.length = fd'.length := by
    rw [bne_eq_false_iff_eq] at hb
    exact Int.ofNat.inj hb
  repeat wtm_at "e1"
  refine ws_for e (by kernel_rfl) ?_ (fun _ => rfl)
  repeat wtm_at "e1"
  refine we_iterD hd dd.nodup fun it hit => ?_
  refine ⟨it, _, _, _, _, fun i m' H' => Ext H2 H' ∧ H' it = some (.itd d i fd.length ep) ∧ m'.lookup (Str.ofString "left") = some (.ref d) ∧ m'.lookup (Str.ofString "right") = some (.ref d') ∧ ∀ (j : Nat) x u, j < i → fd[j]? = some (x, u) → (fd'.lookup x).isSome = true ∧ ats x = ats' x, rfl, drives_dict (d := d) (ep := ep) dd.nodup, ?_, ?_, ?_, ?_⟩
  · exact fun i m' H' x => ⟨x.2.1, x.1 _ _ hd⟩
  · exact ⟨by wtm_at "ex", put_self, by wtm_at "lk", by wtm_at "lk", fun j x u h => absurd h (Nat.not_lt_zero _)⟩
  · rintro i v1 m1 H1 hi' ⟨x, u1, t, hx, rfl⟩ ⟨ea, hit1, hl, hr, hj⟩
    have eb : Ext H2 (H1.put it (.itd d (i + 1) fd.length ep)) := ea.put hit
    have hx1 := lookup_at dd.nodup hx
    have hr1 := (dd.some _ _ hx1).ext eb
    repeat wtm_at "e1"
    refine we_notInD (eb _ _ hd') dd'.nodup ?_
    repeat wtm_at "e1"
    cases hs : (fd'.lookup x) with
    | none =>
      refine ite_b (fun _ => ?_) fun hb => (nomatch hb)
      refine ite_b (fun _ => ?_) fun hb => (nomatch hb)
      repeat wtm_at "e1"
      refine q _ _ (eH.trans eb) ⟨fun x => (nomatch x), fun ex => ?_⟩
      rw [ex, dd'.none _ hs] at hr1
      exact hr1.ne.elim
    | some u2 =>
      have hr2 := (dd'.some _ _ hs).ext eb
      refine ite_b (fun hb => (nomatch hb)) fun _ => ?_
      repeat wtm_at "e1"
      refine we_itemD (eb _ _ hd) dd.nodup hx1 ?_ rfl
      repeat wtm_at "e1"
      refine we_itemD (eb _ _ hd') dd'.nodup hs ?_ rfl
      repeat wtm_at "e1"
      refine hi (room.mono (by omega)) hr1 hr2 fun b Hb ec hb => ?_
      refine ⟨b, rfl, ?_⟩
      cases b with
      | false =>
        refine ite_b (fun _ => ?_) fun hb => (nomatch hb)
        refine ite_b (fun _ => ?_) fun hb => (nomatch hb)
        repeat wtm_at "e1"
        refine q _ _ ((eH.trans eb).trans ec) ⟨fun x => (nomatch x), fun ex => ?_⟩
        subst ex
        exact (nomatch hb.mpr rfl)
      | true =>
        refine ite_b (fun hb => (nomatch hb)) fun _ => ?_
        wtm_at "e1"
        refine ite_b (fun hb => (nomatch hb)) fun _ => ?_
        repeat wtm_at "e1"
        refine turn_next ⟨eb.trans ec, ec _ _ put_self, by wtm_at "lk", by wtm_at "lk", fun j y w hj' hy => ?_⟩
        rcases Nat.lt_or_ge j i with hlt | hge
        · exact hj j y w hlt hy
        · obtain rfl : j = i := by omega
          rw [hx] at hy
          cases hy
          exact ⟨by rw [hs]; rfl, hb.mp rfl⟩
  · rintro m1 H1 ⟨ea, hit1, hl, hr, hj⟩
    repeat wtm_at "e1"
    exact q _ _ (eH.trans (ea.del hit)) ⟨fun _ => dic_eq dd dd' hlen fun j x u hx => hj j x u (List.getElem?_eq_some_iff.mp hx).1 hx, fun _ => rfl⟩
theorem items_c {c : Cx K} {m : Loc} {H : AH} {Q : Value → AH → Prop} {lu lv f : Addr} {us vs : List Value} {j : Nat} (Rel : Nat → Prop) (room : Room c (j + 1)) (hf : ∀ P, keepIn (K P) (.ref f) = true)
    (hu : H lu = some (.lst us)) (hv : H lv = some (.lst vs)) (zu : us.length ≤ 1000) (zv : vs.length ≤ 1000)
    (hs : ∀ p a b, us[p]? = some a → vs[p]? = some b → ∀ {c' : Cx K} {m' : Loc} {H' : AH} {Q' : Value → AH → Prop}, Ext H H' → Room c' j → (∀ r H'', Ext H' H'' → (r = true ↔ Rel p) → Q' (.bool r) H'') → WE c' (call (.ref f) ([] ++ [a, b])) m' H' Q')
    (q : ∀ r H', Ext H H' → (r = true ↔ us.length = vs.length ∧ ∀ p, p < us.length → Rel p) → Q (.bool r) H') : WE c (call (.ref 214) [.ref lu, .ref lv, .ref f]) m H Q := by
  refine fun_in3 (Str.ofString "u") (Str.ofString "v") (Str.ofString "same") (fn_same_items _) room (by wtm_at "whnf") (by kernel_rfl) (by kernel_rfl) (fun _ _ _ _ _ _ _ _ => rfl) fun c' e room => ?_
  have hk : keepIn (K c'.w.params) (.ref f) = true := hf _
  repeat wtm_at "e1"
  refine we_lenL hu (by omega) fun t1 => ?_
  repeat wtm_at "e1"
  refine we_lenL hv (by omega) fun t2 => ?_
  refine we_neI ?_
  repeat wtm_at "e1"
  refine ite_b (fun hb => ?_) fun hb => ?_
  · repeat wtm_at "e1"
    refine q _ _ Ext.refl ⟨fun x => (nomatch x), fun x => ?_⟩
    rw [x.1, bne_self_eq_false] at hb
    cases hb
  have hlen : us.length = vs.length := by
    rw [bne_eq_false_iff_eq] at hb
    exact Int.ofNat.inj hb
  repeat wtm_at "e1"
  refine ws_for e (by kernel_rfl) ?_ (fun _ => rfl)
  repeat wtm_at "e1"
  refine we_lenL hu (by omega) fun t3 => ?_
  repeat wtm_at "e1"
  refine we_range fun ra hra => ?_
  refine we_iterR put_self (by omega) fun it hit => ?_
  have hit0 := (none_of_put hit).1
  refine ⟨it, _, _, _, _, fun i m' H' => Ext H H' ∧ H' it = some (.itr i ((us.length : Int) - i)) ∧ m'.lookup (Str.ofString "u") = some (.ref lu) ∧ m'.lookup (Str.ofString "v") = some (.ref lv) ∧ m'.lookup (Str.ofString "same") = some (.ref f) ∧ ∀ p, p < i → Rel p, rfl, drives_range (n := us.length), ?_, ?_, ?_, ?_⟩
  · exact fun i m' H' x => ⟨x.2.1, trivial⟩
  · exact ⟨(Ext.refl.put hra).put hit0, put_self, by wtm_at "lk", by wtm_at "lk", by wtm_at "lk", fun j h => absurd h (Nat.not_lt_zero _)⟩
  · rintro i v1 m1 H1 hi' ⟨t, rfl⟩ ⟨ea, hit1, hl, hr, hs1, hj⟩
    have eb : Ext H (H1.put it (.itr ((i + 1 : Nat) : Int) ((us.length : Int) - ((i + 1 : Nat) : Int)))) := ea.put hit0
    have g1 : us[i]? = some us[i] := by simp [hi']
    have g2 : vs[i]? = some vs[i] := by simp [hlen ▸ hi']
    repeat wtm_at "e1"
    refine we_itemL (eb _ _ hu) rfl g1 (by omega) ?_ rfl
    repeat wtm_at "e1"
    refine we_itemL (eb _ _ hv) rfl g2 (by omega) ?_ rfl
    repeat wtm_at "e1"
    refine hs i _ _ g1 g2 eb room fun b Hb ec hb => ?_
    refine ⟨b, rfl, ?_⟩
    cases b with
    | false =>
      refine ite_b (fun _ => ?_) fun hb => (nomatch hb)
      repeat wtm_at "e1"
      exact q _ _ (eb.trans ec) ⟨fun x => (nomatch x), fun x => hb.mpr (x.2 i hi')⟩
    | true =>
      refine ite_b (fun hb => (nomatch hb)) fun _ => ?_
      repeat wtm_at "e1"
      refine turn_next ⟨eb.trans ec, ec _ _ put_self, by wtm_at "lk", by wtm_at "lk", by wtm_at "lk", fun p hp => ?_⟩
      rcases Nat.lt_or_ge p i with hlt | hge
      · exact hj p hlt
      · obtain rfl : p = i := by omega
        exact hb.mp rfl
  · rintro m1 H1 ⟨ea, hit1, hl, hr, hs1, hj⟩
    repeat wtm_at "e1"
    exact q _ _ (ea.del hit0) ⟨fun _ => ⟨hlen, hj⟩, fun _ => rfl⟩

theorem formals_c {n : Nat} (hi : IdAt n) {c : Cx K} {m : Loc} {H : AH} {E S S' : Addr → Prop} {Q : Value → AH → Prop} {lu lv : Addr} {us vs : List Value} {xs xs' : List Str} {its its' : Nat → T} (room : Room c (3 * n + 3))
    (hu : H lu = some (.lst us)) (hv : H lv = some (.lst vs)) (zu : us.length ≤ 1000) (zv : vs.length ≤ 1000) (fu : Formals H (Rep 0 E H n S) us xs its) (fv : Formals H (Rep 0 E H n S') vs xs' its')
    (q : ∀ r H', Ext H H' → (r = true ↔ xs = xs' ∧ ∀ p, its (p + 1) = its' (p + 1)) → Q (.bool r) H') : WE c (call (.ref 221) [.ref lu, .ref lv]) m H Q := by
  refine fun_in2 (Str.ofString "u") (Str.ofString "v") (fn_same_formals _) room (by wtm_at "whnf") (by kernel_rfl) (by kernel_rfl) (fun _ _ _ _ _ _ _ _ => rfl) fun c' e room => ?_
  repeat wtm_at "e1"
  refine we_lenL hu (by omega) fun t1 => ?_
  repeat wtm_at "e1"
  refine we_lenL hv (by omega) fun t2 => ?_
  refine we_neI ?_
  repeat wtm_at "e1"
  refine ite_b (fun hb => ?_) fun hb => ?_
  · repeat wtm_at "e1"
    refine q _ _ Ext.refl ⟨fun x => (nomatch x), fun x => ?_⟩
    rw [← fu.1, x.1, fv.1, bne_self_eq_false] at hb
    cases hb
  have hlen : us.length = vs.length := by
    rw [bne_eq_false_iff_eq] at hb
    exact Int.ofNat.inj hb
  repeat wtm_at "e1"
  refine ws_for e (by kernel_rfl) ?_ (fun _ => rfl)
  repeat wtm_at "e1"
  refine we_lenL hu (by omega) fun t3 => ?_
  repeat wtm_at "e1"
  refine we_range fun ra hra => ?_
  refine we_iterR put_self (by omega) fun it hit => ?_
  have hit0 := (none_of_put hit).1
  refine ⟨it, _, _, _, _, fun i m' H' => Ext H H' ∧ H' it = some (.itr i ((us.length : Int) - i)) ∧ m'.lookup (Str.ofString "u") = some (.ref lu) ∧ m'.lookup (Str.ofString "v") = some (.ref lv) ∧ ∀ p, p < i → xs[p]? = xs'[p]? ∧ its (p + 1) = its' (p + 1), rfl, drives_range (n := us.length), ?_, ?_, ?_, ?_⟩
  · exact fun i m' H' x => ⟨x.2.1, trivial⟩
  · exact ⟨(Ext.refl.put hra).put hit0, put_self, by wtm_at "lk", by wtm_at "lk", fun j h => absurd h (Nat.not_lt_zero _)⟩
  · rintro i v1 m1 H1 hi' ⟨t, rfl⟩ ⟨ea, hit1, hl, hr, hj⟩
    have eb : Ext H (H1.put it (.itr ((i + 1 : Nat) : Int) ((us.length : Int) - ((i + 1 : Nat) : Int)))) := ea.put hit0
    have g1 : us[i]? = some us[i] := by simp [hi']
    have g2 : vs[i]? = some vs[i] := by simp [hlen ▸ hi']
    obtain ⟨g, x, tx, u, hp, hg, hx, hr1⟩ := fu.2.1 i _ g1
    obtain ⟨g', x', tx', u', hp', hg', hx', hr2⟩ := fv.2.1 i _ g2
    rw [hp] at g1
    rw [hp'] at g2
    repeat wtm_at "e1"
    refine we_itemL (eb _ _ hu) rfl g1 (by omega) ?_ rfl
    repeat wtm_at "e1"
    refine we_itemT (j := 0) (eb _ _ hg) rfl rfl (Nat.le_of_ble_eq_true rfl) ?_ rfl
    repeat wtm_at "e1"
    refine we_itemL (eb _ _ hv) rfl g2 (by omega) ?_ rfl
    repeat wtm_at "e1"
    refine we_itemT (j := 0) (eb _ _ hg') rfl rfl (Nat.le_of_ble_eq_true rfl) ?_ rfl
    refine we_neS ?_
    refine ⟨_, rfl, ite_b (fun hb => ?_) fun hb => ?_⟩
    · repeat wtm_at "e1"
      refine ite_b (fun _ => ?_) fun hb => (nomatch hb)
      repeat wtm_at "e1"
      refine q _ _ eb ⟨fun x => (nomatch x), fun y => ?_⟩
      rw [y.1, hx'] at hx
      cases hx
      rw [bne_self_eq_false] at hb
      cases hb
    rw [bne_eq_false_iff_eq] at hb
    subst hb
    repeat wtm_at "e1"
    refine we_itemL (eb _ _ hu) rfl g1 (by omega) ?_ rfl
    repeat wtm_at "e1"
    refine we_itemT (j := 1) (eb _ _ hg) rfl rfl (Nat.le_of_ble_eq_true rfl) ?_ rfl
    repeat wtm_at "e1"
    refine we_itemL (eb _ _ hv) rfl g2 (by omega) ?_ rfl
    repeat wtm_at "e1"
    refine we_itemT (j := 1) (eb _ _ hg') rfl rfl (Nat.le_of_ble_eq_true rfl) ?_ rfl
    repeat wtm_at "e1"
    refine hi room (hr1.ext eb) (hr2.ext eb) fun b Hb ec hb => ?_
    refine ⟨b, rfl, ?_⟩
    cases b with
    | false =>
      refine ite_b (fun _ => ?_) fun hb => (nomatch hb)
      refine ite_b (fun _ => ?_) fun hb => (nomatch hb)
      repeat wtm_at "e1"
      exact q _ _ (eb.trans ec) ⟨fun x => (nomatch x), fun x => hb.mpr (x.2 i)⟩
    | true =>
      refine ite_b (fun hb => (nomatch hb)) fun _ => ?_
      wtm_at "e1"
      refine ite_b (fun hb => (nomatch hb)) fun _ => ?_
      repeat wtm_at "e1"
      refine turn_next ⟨eb.trans ec, ec _ _ put_self, by wtm_at "lk", by wtm_at "lk", fun p hp => ?_⟩
      rcases Nat.lt_or_ge p i with hlt | hge
      · exact hj p hlt
      · obtain rfl : p = i := by omega
        exact ⟨by rw [hx, hx'], hb.mp rfl⟩
  · rintro m1 H1 ⟨ea, hit1, hl, hr, hj⟩
    repeat wtm_at "e1"
    refine q _ _ (ea.del hit0) ⟨fun _ => ⟨List.ext_getElem? fun p => ?_, fun p => ?_⟩, fun _ => rfl⟩
    · by_cases hp : p < us.length
      · exact (hj p hp).1
      · rw [List.getElem?_eq_none (by rw [fu.1]; omega), List.getElem?_eq_none (by rw [fv.1]; omega)]
    · by_cases hp : p < us.length
      · exact (hj p hp).2
      · rw [fu.2.2 p (by omega), fv.2.2 p (by omega)]
theorem slots_c {n : Nat} (hi : IdAt n) {c : Cx K} {m : Loc} {H : AH} {E S S' : Addr → Prop} {Q : Value → AH → Prop} {a a' d d' : Addr} {t t' t2 t2' : Tok} {x x' : Str} {fs fs' : List (Str × Value)} {ep ep' : Nat} {sls sls' : Str → T} (room : Room c (3 * n + 3))
    (hu : H a = some (.inst 196 (fS4 t t' x d))) (hv : H a' = some (.inst 196 (fS4 t2 t2' x' d'))) (hd : H d = some (.dct fs ep)) (hd' : H d' = some (.dct fs' ep')) (dd : Dic (Rep 0 E H n S) fs sls) (dd' : Dic (Rep 0 E H n S') fs' sls') (zu : fs.length ≤ 60) (zv : fs'.length ≤ 60)
    (q : ∀ r H', Ext H H' → (r = true ↔ x = x' ∧ sls = sls') → Q (.bool r) H') : WE c (call (.ref 228) [.ref a, .ref a']) m H Q := by
  refine fun_in2 (Str.ofString "u") (Str.ofString "v") (fn_same_slots _) room (by wtm_at "whnf") (by kernel_rfl) (by kernel_rfl) (fun _ _ _ _ _ _ _ _ => rfl) fun c' e room => ?_
  repeat wtm_at "e1"
  refine we_neS ?_
  repeat wtm_at "e1"
  refine ite_b (fun hb => ?_) fun hb => ?_
  · refine ite_b (fun _ => ?_) fun hb => (nomatch hb)
    repeat wtm_at "e1"
    refine q _ _ Ext.refl ⟨fun x => (nomatch x), fun y => ?_⟩
    rw [y.1, bne_self_eq_false] at hb
    cases hb
  rw [bne_eq_false_iff_eq] at hb
  subst hb
  repeat wtm_at "e1"
  refine we_lenD hd dd.nodup (by omega) fun t1 => ?_
  repeat wtm_at "e1"
  refine we_lenD hd' dd'.nodup (by omega) fun t2 => ?_
  refine we_neI ?_
  repeat wtm_at "e1"
  refine ite_b (fun hb => ?_) fun hb => ?_
  · refine ite_b (fun _ => ?_) fun hb => (nomatch hb)
    repeat wtm_at "e1"
    refine q _ _ Ext.refl ⟨fun x => (nomatch x), fun x => ?_⟩
    rw [← x.2] at dd'
    rw [dic_len Rep.no Rep.no dd dd', bne_self_eq_false] at hb
    cases hb
  have hlen : fs.length = fs'.length := by
    rw [bne_eq_false_iff_eq] at hb
    exact Int.ofNat.inj hb
  wtm_at "e1"
  refine ite_b (fun hb => (nomatch hb)) fun _ => ?_
  repeat wtm_at "e1"
  refine ws_for e (by kernel_rfl) ?_ (fun _ => rfl)
  repeat wtm_at "e1"
  refine we_iterD hd dd.nodup fun it hit => ?_
  refine ⟨it, _, _, _, _, fun i m' H' => Ext H H' ∧ H' it = some (.itd d i fs.length ep) ∧ m'.lookup (Str.ofString "u") = some (.ref a) ∧ m'.lookup (Str.ofString "v") = some (.ref a') ∧ ∀ (j : Nat) x u, j < i → fs[j]? = some (x, u) → (fs'.lookup x).isSome = true ∧ sls x = sls' x, rfl, drives_dict (d := d) (ep := ep) dd.nodup, ?_, ?_, ?_, ?_⟩
  · exact fun i m' H' x => ⟨x.2.1, x.1 _ _ hd⟩
  · exact ⟨by wtm_at "ex", put_self, by wtm_at "lk", by wtm_at "lk", fun j x u h => absurd h (Nat.not_lt_zero _)⟩
  · rintro i v1 m1 H1 hi' ⟨x, u1, t, hx, rfl⟩ ⟨ea, hit1, hl, hr, hj⟩
    have eb : Ext H (H1.put it (.itd d (i + 1) fs.length ep)) := ea.put hit
    have hx1 := lookup_at dd.nodup hx
    have hr1 := (dd.some _ _ hx1).ext eb
    repeat wtm_at "e1"
    refine we_notInD (eb _ _ hd') dd'.nodup ?_
    repeat wtm_at "e1"
    cases hs : (fs'.lookup x) with
    | none =>
      refine ite_b (fun _ => ?_) fun hb => (nomatch hb)
      refine ite_b (fun _ => ?_) fun hb => (nomatch hb)
      repeat wtm_at "e1"
      refine q _ _ eb ⟨fun x => (nomatch x), fun ex => ?_⟩
      rw [ex.2, dd'.none _ hs] at hr1
      exact hr1.ne.elim
    | some u2 =>
      have hr2 := (dd'.some _ _ hs).ext eb
      refine ite_b (fun hb => (nomatch hb)) fun _ => ?_
      repeat wtm_at "e1"
      refine we_itemD (eb _ _ hd) dd.nodup hx1 ?_ rfl
      repeat wtm_at "e1"
      refine we_itemD (eb _ _ hd') dd'.nodup hs ?_ rfl
      repeat wtm_at "e1"
      refine hi room hr1 hr2 fun b Hb ec hb => ?_
      refine ⟨b, rfl, ?_⟩
      cases b with
      | false =>
        refine ite_b (fun _ => ?_) fun hb => (nomatch hb)
        refine ite_b (fun _ => ?_) fun hb => (nomatch hb)
        repeat wtm_at "e1"
        refine q _ _ (eb.trans ec) ⟨fun x => (nomatch x), fun ex => hb.mpr (congrFun ex.2 _)⟩
      | true =>
        refine ite_b (fun hb => (nomatch hb)) fun _ => ?_
        wtm_at "e1"
        refine ite_b (fun hb => (nomatch hb)) fun _ => ?_
        repeat wtm_at "e1"
        refine turn_next ⟨eb.trans ec, ec _ _ put_self, by wtm_at "lk", by wtm_at "lk", fun j y w hj' hy => ?_⟩
        rcases Nat.lt_or_ge j i with hlt | hge
        · exact hj j y w hlt hy
        · obtain rfl : j = i := by omega
          rw [hx] at hy
          cases hy
          exact ⟨by rw [hs]; rfl, hb.mp rfl⟩
  · rintro m1 H1 ⟨ea, hit1, hl, hr, hj⟩
    repeat wtm_at "e1"
    exact q _ _ (ea.del hit) ⟨fun _ => ⟨rfl, dic_eq dd dd' hlen fun j x u hx => hj j x u (List.getElem?_eq_some_iff.mp hx).1 hx⟩, fun _ => rfl⟩
theorem kd_no {x : Str} (h : strKd x (allKd.map fun k => (k.str, k)) = none) (k : Kd) : (k.str == x) = false := by
  cases e : (k.str == x) with
  | false => rfl
  | true => rw [← beq_iff_eq.mp e, k.back] at h; cases h
theorem listed (k : Kd) : [Str.ofString "list", Str.ofString "expression", Str.ofString "pairlist"].any (· == k.str) = k.isList := by cases k <;> kernel_rfl
theorem strs3 {x y z : Str} {t t' t'' : Tok} : StrsAre [.str x t, .str y t', .str z t''] [x, y, z] := .cons _ _ (.cons _ _ (.cons _ _ .nil))
theorem tok_kids {R R' : T → Value → Prop} {vs vs' : List Value} {its its' : Nat → T} (hno : ∀ v, ¬ R .no v) (hno' : ∀ v, ¬ R' .no v) (h : Kids R vs its) (h' : Kids R' vs' its') : (vs.length = vs'.length ∧ ∀ p, p < vs.length → its p = its' p) ↔ its = its' :=
  ⟨fun x => kids_eq h h' x.1 x.2, fun x => by subst x; exact ⟨kids_len hno hno' h h', fun _ _ => rfl⟩⟩
theorem clo_eq {i i' : Int} {xs xs' : List Str} {its its' : Nat → T} : (Dat.int i :: xs.map Dat.str = Dat.int i' :: xs'.map Dat.str ∧ its = its' ∧ noA = noA) ↔ i = i' ∧ (xs = xs' ∧ ∀ p, its (p + 1) = its' (p + 1)) ∧ its 0 = its' 0 := by
  constructor
  · rintro ⟨h, rfl, -⟩
    injection h with h1 h2
    injection h1 with h1
    refine ⟨h1, ⟨?_, fun _ => rfl⟩, rfl⟩
    have : ∀ {l l' : List Str}, l.map Dat.str = l'.map Dat.str → l = l' := fun {l l'} h => by
      induction l generalizing l' with
      | nil => cases l' with
        | nil => rfl
        | cons _ _ => cases h
      | cons x l ih => cases l' with
        | nil => cases h
        | cons y l' => injection h with h1 h2; injection h1 with h1; rw [h1, ih h2]
    exact this h2
  · rintro ⟨rfl, ⟨rfl, h⟩, h0⟩
    refine ⟨rfl, funext fun p => ?_, rfl⟩
    cases p with
    | zero => exact h0
    | succ p => exact h p
theorem ker_step {n : Nat} (hi : IdAt n) : KerAt n := by
  intro c m H E S S' k ds ds' its its' sls sls' ats ats' u v Q room hu hv q
  obtain ⟨_, _, _, _, _, a, fs, tk, av, S1, te, ku, -, -⟩ := hu.head
  cases te
  obtain ⟨_, _, _, _, _, a', fs', tk', av', S1', te, kv, -, -⟩ := hv.head
  cases te
  refine fun_in2 (Str.ofString "u") (Str.ofString "v") (fn_same_kernel _) (j := 3 * n + 3) room (by wtm_at "whnf") (by kernel_rfl) (by kernel_rfl) (fun _ _ _ _ _ _ _ _ => rfl) fun c' e room => ?_
  repeat wtm_at "e1"
  refine we_kind ku ?_
  repeat wtm_at "e1"
  refine we_isV ku ?_
  repeat wtm_at "e1"
  refine ite_b (fun hvec => ?_) fun hvec => ?_
  · repeat wtm_at "e1"
    refine we_newTuple (Nat.le_of_ble_eq_true rfl) fun tp htp => ?_
    refine we_inT put_self strs3 ?_
    rw [listed]
    repeat wtm_at "e1"
    cases hu with
    | leaf hk hs sa sl na nl h1 h2 h3 h4 h5 =>
      cases hv with
      | leaf hk' hs' sa' sl' na' nl' h1' h2' h3' h4' h5' =>
        refine ite_b (fun hb => (nomatch hb.symm.trans (Kd.leafV hk).2.2)) fun _ => ?_
        repeat wtm_at "e1"
        refine we_eqLits (put_old htp h2) (put_old htp h2') (h3.mono fun _ _ h => put_old htp h) (h3'.mono fun _ _ h => put_old htp h) room.line64 fun r hr => ?_
        repeat wtm_at "e1"
        exact q _ _ (by wtm_at "ex") ⟨fun x => ⟨hr.mp x, rfl, rfl⟩, fun x => hr.mpr x.1⟩
      | list hk' => exact nomatch hk'.symm.trans (Kd.leafV hk).2.2
      | _ => exact nomatch hvec
    | list hk hs sa sl na nl h1 h2 h3 h4 h5 =>
      cases hv with
      | list hk' hs' sa' sl' na' nl' h1' h2' h3' h4' h5' =>
        refine ite_b (fun _ => ?_) fun hb => (nomatch hb.symm.trans hk)
        repeat wtm_at "e1"
        refine items_c (j := 3 * n + 2) (fun p => _) room (fun P => by kernel_rfl) (put_old htp h2) (put_old htp h2') (by omega) (by omega) (fun p x y hx hy => fun ee rr qq => hi rr ((h3.1 _ _ hx).ext ((Ext.refl.new htp).trans ee)) ((h3'.1 _ _ hy).ext ((Ext.refl.new htp).trans ee)) qq) fun r H1 e1 hr => ?_
        repeat wtm_at "e1"
        rw [tok_kids Rep.no Rep.no h3 h3'] at hr
        exact q _ _ (by wtm_at "ex") ⟨fun x => ⟨rfl, hr.mp x, rfl⟩, fun x => hr.mpr x.2.1⟩
      | leaf hk' => exact nomatch hk.symm.trans (Kd.leafV hk').2.2
      | _ => exact nomatch hvec
    | _ => exact nomatch hvec
  repeat wtm_at "e1"
  refine we_eqS ?_
  repeat wtm_at "e1"
  refine ite_b (fun hb => ?_) fun hb0 => ?_
  · obtain rfl := (kd_beq k .sym rfl).mp hb
    repeat wtm_at "e1"
    refine ite_b (fun _ => ?_) fun hb => (nomatch hb)
    cases hu with
    | sym sa h1 hx =>
      cases hv with
      | sym sa' h1' hx' =>
        repeat wtm_at "e1"
        refine we_eqS ?_
        repeat wtm_at "e1"
        refine q _ _ Ext.refl ⟨fun x => ⟨by rw [beq_iff_eq.mp x], rfl, rfl⟩, fun x => ?_⟩
        injection x.1 with x1
        injection x1 with x1
        exact beq_iff_eq.mpr x1
      | leaf hk' => exact nomatch hk'
      | list hk' => exact nomatch hk'
    | leaf hk => exact nomatch hk
    | list hk => exact nomatch hk
  repeat wtm_at "e1"
  refine we_eqS ?_
  rw [kd_no rfl]
  repeat wtm_at "e1"
  refine ite_b (fun hb => (nomatch hb)) fun _ => ?_
  repeat wtm_at "e1"
  refine we_eqS ?_
  rw [kd_no rfl]
  repeat wtm_at "e1"
  refine ite_b (fun hb => (nomatch hb)) fun _ => ?_
  wtm_at "e1"
  refine ite_b (fun hb => (nomatch hb)) fun _ => ?_
  repeat wtm_at "e1"
  refine we_eqS ?_
  repeat wtm_at "e1"
  refine ite_b (fun hb => ?_) fun hb1 => ?_
  · obtain rfl := (kd_beq k .call rfl).mp hb
    cases hu with
    | call hs sa sl sg ng na nl ng2 h1 h2 h3 h4 h5 h6 h7 h8 h9 =>
      cases hv with
      | call hs' sa' sl' sg' ng' na' nl' ng2' h1' h2' h3' h4' h5' h6' h7' h8' h9' =>
        repeat wtm_at "e1"
        refine we_eqLits h3 h3' h5 h5' room.line64 fun r hr => ?_
        refine ⟨r, rfl, ite_b (fun hb => ?_) fun hb => ?_⟩
        · repeat wtm_at "e1"
          refine items_c (j := 3 * n + 2) (fun p => _) room (fun P => by kernel_rfl) h2 h2' (by omega) (by omega) (fun p x y hx hy => fun ee rr qq => hi rr ((h4.1 _ _ hx).ext ee) ((h4'.1 _ _ hy).ext ee) qq) fun r H1 e1 hr2 => ?_
          repeat wtm_at "e1"
          rw [tok_kids Rep.no Rep.no h4 h4'] at hr2
          exact q _ _ e1 ⟨fun x => ⟨hr.mp hb, hr2.mp x, rfl⟩, fun x => hr2.mpr x.2.1⟩
        · repeat wtm_at "e1"
          refine q _ _ Ext.refl ⟨fun x => (nomatch x), fun x => ?_⟩
          rw [hr.mpr x.1] at hb
          cases hb
      | leaf hk' => exact nomatch hk'
      | list hk' => exact nomatch hk'
    | leaf hk => exact nomatch hk
    | list hk => exact nomatch hk
  repeat wtm_at "e1"
  refine we_eqS ?_
  repeat wtm_at "e1"
  refine ite_b (fun hb => ?_) fun hb2 => ?_
  · obtain rfl := (kd_beq k .env rfl).mp hb
    cases hu with
    | env sa h1 =>
      cases hv with
      | env sa' h1' =>
        repeat wtm_at "e1"
        refine we_eqI ?_
        repeat wtm_at "e1"
        refine q _ _ Ext.refl ⟨fun x => ⟨by rw [beq_iff_eq.mp x], rfl, rfl⟩, fun x => ?_⟩
        injection x.1 with x1
        injection x1 with x1
        exact beq_iff_eq.mpr x1
      | leaf hk' => exact nomatch hk'
      | list hk' => exact nomatch hk'
    | leaf hk => exact nomatch hk
    | list hk => exact nomatch hk
  repeat wtm_at "e1"
  refine we_eqS ?_
  repeat wtm_at "e1"
  refine ite_b (fun hb => ?_) fun hb3 => ?_
  · obtain rfl := (kd_beq k .clo rfl).mp hb
    cases hu with
    | clo hs sa sl na nl h1 h2 h3 h4 h5 h6 h7 h8 =>
      cases hv with
      | clo hs' sa' sl' na' nl' h1' h2' h3' h4' h5' h6' h7' h8' =>
        have hbv := h4.handed
        have hbv' := h4'.handed
        repeat wtm_at "e1"
        refine we_eqI ?_
        repeat wtm_at "e1"
        refine ite_b (fun hb => ?_) fun hb => ?_
        · rw [beq_iff_eq] at hb
          subst hb
          repeat wtm_at "e1"
          refine formals_c hi room h2 h2' (by omega) (by omega) h3 h3' fun r H1 e1 hr => ?_
          refine ⟨r, rfl, ite_b (fun hb => ?_) fun hb => ?_⟩
          · repeat wtm_at "e1"
            refine hi (room.mono (by omega)) (h4.ext e1) (h4'.ext e1) fun r2 H2 e2 hr2 => ?_
            repeat wtm_at "e1"
            refine q _ _ (e1.trans e2) ?_
            rw [clo_eq]
            exact ⟨fun x => ⟨rfl, hr.mp hb, hr2.mp x⟩, fun x => hr2.mpr x.2.2⟩
          · repeat wtm_at "e1"
            refine q _ _ e1 ?_
            rw [clo_eq]
            refine ⟨fun x => (nomatch x), fun x => ?_⟩
            rw [hr.mpr x.2.1] at hb
            cases hb
        · repeat wtm_at "e1"
          refine q _ _ Ext.refl ?_
          rw [clo_eq]
          refine ⟨fun x => (nomatch x), fun x => ?_⟩
          rw [x.1, beq_self_eq_true] at hb
          cases hb
      | leaf hk' => exact nomatch hk'
      | list hk' => exact nomatch hk'
    | leaf hk => exact nomatch hk
    | list hk => exact nomatch hk
  repeat wtm_at "e1"
  refine we_eqS ?_
  repeat wtm_at "e1"
  refine ite_b (fun hb => ?_) fun hb4 => ?_
  · obtain rfl := (kd_beq k .s4 rfl).mp hb
    cases hu with
    | s4 hs sa sd na nd h1 h2 h3 h4 h5 =>
      cases hv with
      | s4 hs' sa' sd' na' nd' h1' h2' h3' h4' h5' =>
        repeat wtm_at "e1"
        refine slots_c hi room h1 h1' h2 h2' h3 h3' (by omega) (by omega) fun r H1 e1 hr => ?_
        repeat wtm_at "e1"
        refine q _ _ e1 (hr.trans ⟨fun x => ⟨by rw [x.1], rfl, x.2⟩, fun x => ⟨?_, x.2.2⟩⟩)
        injection x.1 with x1
        injection x1 with x1
      | leaf hk' => exact nomatch hk'
      | list hk' => exact nomatch hk'
    | leaf hk => exact nomatch hk
    | list hk => exact nomatch hk
  repeat wtm_at "e1"
  refine we_eqS ?_
  rw [kd_no rfl]
  repeat wtm_at "e1"
  refine ite_b (fun hb => (nomatch hb)) fun _ => ?_
  repeat wtm_at "e1"
  refine we_eqS ?_
  rw [kd_no rfl]
  repeat wtm_at "e1"
  refine ite_b (fun hb => (nomatch hb)) fun _ => ?_
  repeat wtm_at "e1"
  refine q _ _ Ext.refl ⟨fun _ => ?_, fun _ => rfl⟩
  cases hu with
  | null => cases hv with
    | null => exact ⟨rfl, rfl, rfl⟩
    | leaf hk' => exact nomatch hk'
    | list hk' => exact nomatch hk'
  | miss => cases hv with
    | miss => exact ⟨rfl, rfl, rfl⟩
    | leaf hk' => exact nomatch hk'
    | list hk' => exact nomatch hk'
  | sym => exact nomatch hb0
  | env => exact nomatch hb2
  | leaf hk => exact nomatch (Kd.leafV hk).2.1.symm.trans hvec
  | list hk => exact nomatch (Kd.listV hk).2.1.symm.trans hvec
  | call => exact nomatch hb1
  | clo => exact nomatch hb3
  | s4 => exact nomatch hb4
section
variable {c : Cx K} {m : Loc} {H : AH} {Q : Value → AH → Prop}
theorem cls_in {C fI : Addr} {params : Arguments} {body body' : List Stmt} {sc : Scope} {dV : Value} {args : List Value} (binds : Value → Loc) (m1 : Value → Loc) (room : Room c 2)
    (hm : makesIn (K c.w.params) C = true) (hi : findIn (K c.w.params) (.ref C) "__init__" = some (some (.ref fI))) (hf : isFn (K c.w.params) (.ref fI) = true)
    (fn : FnIs (K c.w.params) fI params body sc dV) (hb : body = body') (hr : ∀ v, (binds v).reverse = m1 v) (hcell : sc.names.all (fun x => x.2 != .cell) = true)
    (hloc : ((binds .none).map (·.1)).all (fun y => sc.names.lookup y == some .local) = true) (hnm : ∀ v, (binds v).map (·.1) = (binds .none).map (·.1))
    (hbind : ∀ v s, (K c.w.params).In s.heap → ∀ name qual kV doc pm an cdv ct, BindsTo s (fnX name qual params body sc [] dV kV doc pm an cdv ct) ⟨v :: args, []⟩ (binds v))
    (h : ∀ (a dx : Addr) (c' : Cx K), EnvIs c' sc [] c'.L → H a = none → H dx = none → a ≠ dx → WS c' (execs body' c'.env) (m1 (.ref a)) ((H.put dx (.part a)).put a (.inst C [])) fun fl _ H' => retv fl = .none ∧ Q (.ref a) H') : WE c (call (.ref C) args) m H Q := by
  subst hb
  refine ws_cls hm hi hf fn (by have := room.1; show _ < 1000; omega) hcell (fun v => ?_) hbind fun a dx A' c' ha hdx hne _ _ sub => hr (.ref a) ▸ h a dx c' sub.env ha hdx hne
  rw [← hnm v, List.all_map] at hloc
  exact hloc
theorem put_eq {a C : Addr} {fs fs' : List (Str × Value)} (e : fs' = fs) : (H.put a (.inst C fs')) a = some (.inst C fs) := e ▸ put_self
theorem mk_Null  (room : Room c 2) (q : ∀ a t H', Ext H H' → H a = none → H' a = some (.inst 38 (fNull .null t)) → Q (.ref a) H') : WE c (call (.ref 38) []) m H Q := by
  refine cls_in (fun v => [((Str.ofString "self"), v)]) (fun v => [((Str.ofString "self"), v)]) room (by kernel_rfl) (by kernel_rfl) (by kernel_rfl) (fn_Null _) (by wtm_at "whnf") (fun _ => rfl) (by kernel_rfl) (by kernel_rfl) (fun _ => rfl) (fun v s hs _ _ _ _ _ _ _ _ => BindsTo.of_eq rfl) fun a dx c' e ha hdx hne => ?_
  repeat wtm_at "e1"
  rename_i t
  exact q a t _ (by wtm_at "ex") ha (put_eq (by kernel_rfl))
theorem mk_Missing  (room : Room c 2) (q : ∀ a t H', Ext H H' → H a = none → H' a = some (.inst 59 (fNull .miss t)) → Q (.ref a) H') : WE c (call (.ref 59) []) m H Q := by
  refine cls_in (fun v => [((Str.ofString "self"), v)]) (fun v => [((Str.ofString "self"), v)]) room (by kernel_rfl) (by kernel_rfl) (by kernel_rfl) (fn_Missing _) (by wtm_at "whnf") (fun _ => rfl) (by kernel_rfl) (by kernel_rfl) (fun _ => rfl) (fun v s hs _ _ _ _ _ _ _ _ => BindsTo.of_eq rfl) fun a dx c' e ha hdx hne => ?_
  repeat wtm_at "e1"
  rename_i t
  exact q a t _ (by wtm_at "ex") ha (put_eq (by kernel_rfl))
theorem mk_Vector2 {k : Kd} {tk : Tok} {l : Addr} (room : Room c 2) (q : ∀ a H', Ext H H' → H a = none → H' a = some (.inst 88 (fVec k tk l .none)) → Q (.ref a) H') : WE c (call (.ref 88) [.str k.str tk, .ref l]) m H Q := by
  refine cls_in (fun v => [((Str.ofString "self"), v), ((Str.ofString "kind"), .str k.str tk), ((Str.ofString "items"), .ref l), ((Str.ofString "attrs"), .none)]) (fun v => [((Str.ofString "attrs"), .none), ((Str.ofString "items"), .ref l), ((Str.ofString "kind"), .str k.str tk), ((Str.ofString "self"), v)]) room (by kernel_rfl) (by kernel_rfl) (by kernel_rfl) (fn_Vector _) (by wtm_at "whnf") (fun _ => rfl) (by kernel_rfl) (by kernel_rfl) (fun _ => rfl) (fun v s hs _ _ _ _ _ _ _ _ => binds_K (o := ⟨.type "tuple", none, .seq #[.none] 0, #[]⟩) (items := #[.none]) (n := 0) hs rfl (by kernel_rfl) rfl rfl rfl) fun a dx c' e ha hdx hne => ?_
  repeat wtm_at "e1"
  exact q a _ (by wtm_at "ex") ha (put_eq (by kernel_rfl))
theorem mk_Call2 {l g : Addr} (room : Room c 2) (q : ∀ a t H', Ext H H' → H a = none → H' a = some (.inst 131 (fCall t l g .none)) → Q (.ref a) H') : WE c (call (.ref 131) [.ref l, .ref g]) m H Q := by
  refine cls_in (fun v => [((Str.ofString "self"), v), ((Str.ofString "items"), .ref l), ((Str.ofString "tags"), .ref g), ((Str.ofString "attrs"), .none)]) (fun v => [((Str.ofString "attrs"), .none), ((Str.ofString "tags"), .ref g), ((Str.ofString "items"), .ref l), ((Str.ofString "self"), v)]) room (by kernel_rfl) (by kernel_rfl) (by kernel_rfl) (fn_Call _) (by wtm_at "whnf") (fun _ => rfl) (by kernel_rfl) (by kernel_rfl) (fun _ => rfl) (fun v s hs _ _ _ _ _ _ _ _ => binds_K (o := ⟨.type "tuple", none, .seq #[.none] 0, #[]⟩) (items := #[.none]) (n := 0) hs rfl (by kernel_rfl) rfl rfl rfl) fun a dx c' e ha hdx hne => ?_
  repeat wtm_at "e1"
  rename_i t
  exact q a t _ (by wtm_at "ex") ha (put_eq (by kernel_rfl))
theorem mk_Vector3 {k : Kd} {tk : Tok} {l : Addr} {av : Value} (room : Room c 2) (q : ∀ a H', Ext H H' → H a = none → H' a = some (.inst 88 (fVec k tk l av)) → Q (.ref a) H') : WE c (call (.ref 88) [.str k.str tk, .ref l, av]) m H Q := by
  refine cls_in (fun v => [((Str.ofString "self"), v), ((Str.ofString "kind"), .str k.str tk), ((Str.ofString "items"), .ref l), ((Str.ofString "attrs"), av)]) (fun v => [((Str.ofString "attrs"), av), ((Str.ofString "items"), .ref l), ((Str.ofString "kind"), .str k.str tk), ((Str.ofString "self"), v)]) room (by kernel_rfl) (by kernel_rfl) (by kernel_rfl) (fn_Vector _) (by wtm_at "whnf") (fun _ => rfl) (by kernel_rfl) (by kernel_rfl) (fun _ => rfl) (fun v s hs _ _ _ _ _ _ _ _ => binds_K (o := ⟨.type "tuple", none, .seq #[.none] 0, #[]⟩) (items := #[.none]) (n := 0) hs rfl (by kernel_rfl) rfl rfl rfl) fun a dx c' e ha hdx hne => ?_
  repeat wtm_at "e1"
  exact q a _ (by wtm_at "ex") ha (put_eq (by kernel_rfl))
theorem mk_Call3 {l g : Addr} {av : Value} (room : Room c 2) (q : ∀ a t H', Ext H H' → H a = none → H' a = some (.inst 131 (fCall t l g av)) → Q (.ref a) H') : WE c (call (.ref 131) [.ref l, .ref g, av]) m H Q := by
  refine cls_in (fun v => [((Str.ofString "self"), v), ((Str.ofString "items"), .ref l), ((Str.ofString "tags"), .ref g), ((Str.ofString "attrs"), av)]) (fun v => [((Str.ofString "attrs"), av), ((Str.ofString "tags"), .ref g), ((Str.ofString "items"), .ref l), ((Str.ofString "self"), v)]) room (by kernel_rfl) (by kernel_rfl) (by kernel_rfl) (fn_Call _) (by wtm_at "whnf") (fun _ => rfl) (by kernel_rfl) (by kernel_rfl) (fun _ => rfl) (fun v s hs _ _ _ _ _ _ _ _ => binds_K (o := ⟨.type "tuple", none, .seq #[.none] 0, #[]⟩) (items := #[.none]) (n := 0) hs rfl (by kernel_rfl) rfl rfl rfl) fun a dx c' e ha hdx hne => ?_
  repeat wtm_at "e1"
  rename_i t
  exact q a t _ (by wtm_at "ex") ha (put_eq (by kernel_rfl))
theorem mk_Symbol {x : Str} {t' : Tok} (room : Room c 2) (q : ∀ a t H', Ext H H' → H a = none → H' a = some (.inst 109 (fSym t t' x)) → Q (.ref a) H') : WE c (call (.ref 109) [.str x t']) m H Q := by
  refine cls_in (fun v => [((Str.ofString "self"), v), ((Str.ofString "name"), .str x t')]) (fun v => [((Str.ofString "name"), .str x t'), ((Str.ofString "self"), v)]) room (by kernel_rfl) (by kernel_rfl) (by kernel_rfl) (fn_Symbol _) (by wtm_at "whnf") (fun _ => rfl) (by kernel_rfl) (by kernel_rfl) (fun _ => rfl) (fun v s hs _ _ _ _ _ _ _ _ => BindsTo.of_eq rfl) fun a dx c' e ha hdx hne => ?_
  repeat wtm_at "e1"
  rename_i t
  exact q a t _ (by wtm_at "ex") ha (put_eq (by kernel_rfl))
theorem mk_Closure3 {l en : Addr} {bv : Value} (room : Room c 2) (q : ∀ a t H', Ext H H' → H a = none → H' a = some (.inst 153 (fClo t l bv en)) → Q (.ref a) H') : WE c (call (.ref 153) [.ref l, bv, .ref en]) m H Q := by
  refine cls_in (fun v => [((Str.ofString "self"), v), ((Str.ofString "formals"), .ref l), ((Str.ofString "body"), bv), ((Str.ofString "env"), .ref en), ((Str.ofString "attrs"), .none)]) (fun v => [((Str.ofString "attrs"), .none), ((Str.ofString "env"), .ref en), ((Str.ofString "body"), bv), ((Str.ofString "formals"), .ref l), ((Str.ofString "self"), v)]) room (by kernel_rfl) (by kernel_rfl) (by kernel_rfl) (fn_Closure _) (by wtm_at "whnf") (fun _ => rfl) (by kernel_rfl) (by kernel_rfl) (fun _ => rfl) (fun v s hs _ _ _ _ _ _ _ _ => binds_K (o := ⟨.type "tuple", none, .seq #[.none] 0, #[]⟩) (items := #[.none]) (n := 0) hs rfl (by kernel_rfl) rfl rfl rfl) fun a dx c' e ha hdx hne => ?_
  repeat wtm_at "e1"
  rename_i t
  exact q a t _ (by wtm_at "ex") ha (put_eq (by kernel_rfl))
theorem mk_Closure4 {l en : Addr} {bv : Value} (room : Room c 2) (q : ∀ a t H', Ext H H' → H a = none → H' a = some (.inst 153 (fClo t l bv en)) → Q (.ref a) H') : WE c (call (.ref 153) [.ref l, bv, .ref en, .none]) m H Q := by
  refine cls_in (fun v => [((Str.ofString "self"), v), ((Str.ofString "formals"), .ref l), ((Str.ofString "body"), bv), ((Str.ofString "env"), .ref en), ((Str.ofString "attrs"), .none)]) (fun v => [((Str.ofString "attrs"), .none), ((Str.ofString "env"), .ref en), ((Str.ofString "body"), bv), ((Str.ofString "formals"), .ref l), ((Str.ofString "self"), v)]) room (by kernel_rfl) (by kernel_rfl) (by kernel_rfl) (fn_Closure _) (by wtm_at "whnf") (fun _ => rfl) (by kernel_rfl) (by kernel_rfl) (fun _ => rfl) (fun v s hs _ _ _ _ _ _ _ _ => binds_K (o := ⟨.type "tuple", none, .seq #[.none] 0, #[]⟩) (items := #[.none]) (n := 0) hs rfl (by kernel_rfl) rfl rfl rfl) fun a dx c' e ha hdx hne => ?_
  repeat wtm_at "e1"
  rename_i t
  exact q a t _ (by wtm_at "ex") ha (put_eq (by kernel_rfl))
theorem mk_Env {i : Int} {t' : Tok} (room : Room c 2) (q : ∀ a t f l H', Ext H H' → H a = none → H' a = some (.inst 175 (fEnv t t' i f l)) → Q (.ref a) H') : WE c (call (.ref 175) [.int i t', .none]) m H Q := by
  refine cls_in (fun v => [((Str.ofString "self"), v), ((Str.ofString "number"), .int i t'), ((Str.ofString "parent"), .none), ((Str.ofString "attrs"), .none)]) (fun v => [((Str.ofString "attrs"), .none), ((Str.ofString "parent"), .none), ((Str.ofString "number"), .int i t'), ((Str.ofString "self"), v)]) room (by kernel_rfl) (by kernel_rfl) (by kernel_rfl) (fn_Environment _) (by wtm_at "whnf") (fun _ => rfl) (by kernel_rfl) (by kernel_rfl) (fun _ => rfl) (fun v s hs _ _ _ _ _ _ _ _ => binds_K (o := ⟨.type "tuple", none, .seq #[.none] 0, #[]⟩) (items := #[.none]) (n := 0) hs rfl (by kernel_rfl) rfl rfl rfl) fun a dx c' e ha hdx hne => ?_
  repeat wtm_at "e1"
  refine we_dictNil fun ep f hf => ?_
  repeat wtm_at "e1"
  refine we_dictNil fun ep2 l hl => ?_
  repeat wtm_at "e1"
  rename_i t
  exact q a t f l _ (by wtm_at "ex") ha (put_eq (by kernel_rfl))
theorem mk_S4 {x : Str} {t' : Tok} (room : Room c 2) (q : ∀ a d t ep H', Ext H H' → H a = none → H d = none → a ≠ d → H' a = some (.inst 196 (fS4 t t' x d)) → H' d = some (.dct [] ep) → Q (.ref a) H') : WE c (call (.ref 196) [.str x t']) m H Q := by
  refine cls_in (fun v => [((Str.ofString "self"), v), ((Str.ofString "name"), .str x t')]) (fun v => [((Str.ofString "name"), .str x t'), ((Str.ofString "self"), v)]) room (by kernel_rfl) (by kernel_rfl) (by kernel_rfl) (fn_S4Object _) (by wtm_at "whnf") (fun _ => rfl) (by kernel_rfl) (by kernel_rfl) (fun _ => rfl) (fun v s hs _ _ _ _ _ _ _ _ => BindsTo.of_eq rfl) fun a dx c' e ha hdx hne => ?_
  repeat wtm_at "e1"
  refine we_dictNil fun ep d hd => ?_
  repeat wtm_at "e1"
  have hda : a ≠ d := (ne_of_none hd put_self).symm
  rename_i t
  exact q a d t ep _ (by wtm_at "ex") ha (Ext.nn (by wtm_at "ex") hd) hda (put_eq (by kernel_rfl)) (by wtm_at "hp")
end
noncomputable def Kd.deep : Kd → Bool
  | .call => true | .lst => true | .exp => true | _ => false
noncomputable def namesOf : T → T
  | .no => .no
  | .node _ ds _ _ _ => .node .null ds noI noA noA
noncomputable def nmA (ats : Str → T) : Str → T := fun x => if x = Str.ofString "names" then namesOf (ats x) else .no
theorem nmA_eq {ats ats' : Str → T} : nmA ats = nmA ats' ↔ namesOf (ats (Str.ofString "names")) = namesOf (ats' (Str.ofString "names")) := by
  constructor
  · intro h
    have := congrFun h (Str.ofString "names")
    unfold nmA at this
    rwa [if_pos rfl, if_pos rfl] at this
  · intro h
    funext x
    unfold nmA
    by_cases e : x = Str.ofString "names"
    · rw [if_pos e, if_pos e, e, h]
    · rw [if_neg e, if_neg e]
noncomputable def cAts (k : Kd) (ats : Str → T) : Str → T := if k.isVec = true then nmA ats else if k.deep = true then noA else ats
noncomputable def code : T → T
  | .no => .no
  | .node k ds its sls ats => .node k ds (if k.deep = true then fun i => code (its i) else its) sls (cAts k ats)
theorem code_deep {k : Kd} {ds ds' : List Dat} {its its' : Nat → T} {sls sls' ats ats' : Str → T} (hk : k.deep = true) : code (.node k ds its sls ats) = code (.node k ds' its' sls' ats') ↔ (ds = ds' ∧ (∀ i, code (its i) = code (its' i)) ∧ sls = sls') ∧ cAts k ats = cAts k ats' := by
  show T.node _ _ _ _ _ = T.node _ _ _ _ _ ↔ _
  rw [node_eq, if_pos hk, if_pos hk]
  exact ⟨fun x => ⟨⟨x.2.1.1, congrFun x.2.1.2.1, x.2.1.2.2⟩, x.2.2⟩, fun x => ⟨rfl, ⟨x.1.1, funext x.1.2.1, x.1.2.2⟩, x.2⟩⟩
theorem code_flat {k : Kd} {ds ds' : List Dat} {its its' : Nat → T} {sls sls' ats ats' : Str → T} (hk : k.deep = false) : code (.node k ds its sls ats) = code (.node k ds' its' sls' ats') ↔ (ds = ds' ∧ its = its' ∧ sls = sls') ∧ cAts k ats = cAts k ats' := by
  show T.node _ _ _ _ _ = T.node _ _ _ _ _ ↔ _
  have : ¬ k.deep = true := fun h => nomatch hk.symm.trans h
  rw [node_eq, if_neg this, if_neg this]
  exact ⟨fun x => ⟨x.2.1, x.2.2⟩, fun x => ⟨rfl, x.1, x.2⟩⟩
theorem code_kind {k k' : Kd} {ds ds' : List Dat} {its its' : Nat → T} {sls sls' ats ats' : Str → T} (h : code (.node k ds its sls ats) = code (.node k' ds' its' sls' ats')) : k = k' := (node_eq.mp h).1

noncomputable def NItems (H : AH) (r : Value) (t : T) : Prop := (r = .none ∧ t = .no) ∨ ∃ l vs k ds ats, r = .ref l ∧ H l = some (.lst vs) ∧ LitsAre H vs ds ∧ t = leafT k ds ats
theorem NItems.ext {H H' : AH} {r : Value} {t : T} (h : NItems H r t) (e : Ext H H') : NItems H' r t := by
  rcases h with h | ⟨l, vs, k, ds, ats, h1, h2, h3, h4⟩
  · exact .inl h
  · exact .inr ⟨l, vs, k, ds, ats, h1, e _ _ h2, h3.mono fun _ _ => e _ _, h4⟩
theorem we_nneNone {c : Cx K} {m : Loc} {H : AH} {Q : Value → AH → Prop} {l : Addr} {vs : List Value} (hl : H l = some (.lst vs)) (hu : c.A.units < cLine) (h : Q (.bool true) H) : WE c (compareOp .NotEq .none (.ref l)) m H Q := WE.lst hl fun s news n I F N L m1 hL =>
  SeqAt.RcNeAt.none_list hL hu _ _ _ _ (pq I h)
theorem we_neNames {c : Cx K} {m : Loc} {H : AH} {Q : Value → AH → Prop} {r r' : Value} {t t' : T} (h : NItems H r t) (h' : NItems H r' t') (hu : c.A.units + 64 < cLine) (q : ∀ b : Bool, (b = true ↔ namesOf t = namesOf t') → Q (.bool !b) H) : WE c (compareOp .NotEq r r') m H Q := by
  rcases h with ⟨rfl, rfl⟩ | ⟨l, vs, k, ds, ats, rfl, h2, h3, rfl⟩
  · rcases h' with ⟨rfl, rfl⟩ | ⟨l', vs', k', ds', ats', rfl, h2', h3', rfl⟩
    · exact we_neNones (q true ⟨fun _ => rfl, fun _ => rfl⟩)
    · exact we_nneNone h2' (by omega) (q false ⟨fun x => (nomatch x), fun x => (nomatch x)⟩)
  · rcases h' with ⟨rfl, rfl⟩ | ⟨l', vs', k', ds', ats', rfl, h2', h3', rfl⟩
    · exact we_neNone h2 (by omega) (q false ⟨fun x => (nomatch x), fun x => (nomatch x)⟩)
    · refine we_neLits h2 h2' h3 h3' hu fun r hr => q r (hr.trans ⟨fun x => by rw [x]; rfl, fun x => ?_⟩)
      injection x
theorem Attrs.ext {w n : Nat} {E S S' : Addr → Prop} {H H' : AH} {av : Value} {ats : Str → T} (h : Attrs w H (Rep w E H n) S S' av ats) (e : Ext H H') : Attrs w H' (Rep w E H' n) S S' av ats := by
  cases h with
  | none => exact .none
  | some h1 h2 h3 h4 h5 h6 h7 => exact .some (e _ _ h1) h2 h3 (h4.mono fun t v h => h.ext e) h5 h6 h7
theorem code_no {t : T} (h : code t = .no) : t = .no := by
  cases t with
  | no => rfl
  | node => cases h
theorem code_kids {R R' : T → Value → Prop} {vs vs' : List Value} {its its' : Nat → T} (hno : ∀ v, ¬ R .no v) (hno' : ∀ v, ¬ R' .no v) (h : Kids R vs its) (h' : Kids R' vs' its') : (vs.length = vs'.length ∧ ∀ p, p < vs.length → code (its p) = code (its' p)) ↔ ∀ i, code (its i) = code (its' i) := by
  constructor
  · intro x i
    by_cases hi : i < vs.length
    · exact x.2 i hi
    · rw [h.2 i (by omega), h'.2 i (by omega)]
  · intro x
    refine ⟨Nat.le_antisymm (Nat.le_of_not_lt fun hlt => ?_) (Nat.le_of_not_lt fun hlt => ?_), fun p _ => x p⟩
    · have h1 := h.1 vs'.length vs[vs'.length] (by simp [hlt])
      have h2 := x vs'.length
      rw [h'.2 _ (Nat.le_refl _)] at h2
      rw [code_no h2] at h1
      exact hno _ h1
    · have h1 := h'.1 vs.length vs'[vs.length] (by simp [hlt])
      have h2 := x vs.length
      rw [h.2 _ (Nat.le_refl _)] at h2
      rw [code_no h2.symm] at h1
      exact hno' _ h1
theorem names_c {c : Cx K} {m : Loc} {H : AH} {Q : Value → AH → Prop} {n j : Nat} {E S S' : Addr → Prop} {v : Value} {k : Kd} {a : Addr} {fs : List (Str × Value)} {tk : Tok} {av : Value} {ats : Str → T} (room : Room c (j + 1))
    (kv : Head H v k a fs tk av) (hav : Attrs 1 H (Rep 1 E H n) S S' av ats) (q : ∀ r H', Ext H H' → NItems H' r (ats (Str.ofString "names")) → Q r H') : WE c (call (.ref 256) [v]) m H Q := by
  refine fun_in1 (Str.ofString "v") (fn_names_items _) room (by wtm_at "whnf") (by kernel_rfl) (by kernel_rfl) (fun _ _ _ _ _ _ _ _ => rfl) fun c' e room => ?_
  repeat wtm_at "e1"
  refine we_attrs kv hav.handed ?_
  repeat wtm_at "e1"
  refine we_isNone ?_
  repeat wtm_at "e1"
  cases hav with
  | none =>
    refine ite_b (fun _ => ?_) fun hb => (nomatch hb)
    refine ite_b (fun _ => ?_) fun hb => (nomatch hb)
    repeat wtm_at "e1"
    exact q _ _ Ext.refl (.inl ⟨rfl, rfl⟩)
  | some h1 h2 h3 h4 h5 h6 h7 =>
    refine ite_b (fun hb => (nomatch hb)) fun _ => ?_
    repeat wtm_at "e1"
    refine we_attrs kv rfl ?_
    refine we_notInD h1 h4.nodup ?_
    repeat wtm_at "e1"
    cases hs : List.lookup (Str.ofString "names") _ with
    | none =>
      refine ite_b (fun _ => ?_) fun hb => (nomatch hb)
      refine ite_b (fun _ => ?_) fun hb => (nomatch hb)
      repeat wtm_at "e1"
      exact q _ _ Ext.refl (.inl ⟨rfl, h4.none _ hs⟩)
    | some u =>
      refine ite_b (fun hb => (nomatch hb)) fun _ => ?_
      wtm_at "e1"
      refine ite_b (fun hb => (nomatch hb)) fun _ => ?_
      repeat wtm_at "e1"
      refine we_attrs kv rfl ?_
      repeat wtm_at "e1"
      refine we_itemD h1 h4.nodup hs ?_ rfl
      have hr := h4.some _ _ hs
      have hn := h6 (Nat.le_refl _)
      rcases hn with hn | ⟨k2, ds, ats2, hk2, hn⟩
      · rw [hn] at hr; exact hr.ne.elim
      rw [hn] at hr
      obtain ⟨n', rfl⟩ : ∃ n', n = n' + 1 := by cases n with
        | zero => exact hr.elim
        | succ n' => exact ⟨n', rfl⟩
      replace hr : Node 1 E H (Rep 1 E H n') S' (.node k2 ds noI noA ats2) u := hr
      cases hr with
      | leaf hk hs sa sl na nl g1 g2 g3 g4 g5 =>
        repeat wtm_at "e1"
        exact q _ _ Ext.refl (.inr ⟨_, _, _, _, _, rfl, g2, g3, hn⟩)
      | list hk => exact nomatch hk.symm.trans (Kd.leafV hk2).2.2
      | _ => exact nomatch hk2

theorem deep_no {k : Kd} (h : k.isVec = false) (h2 : (k.str == Str.ofString "language") = false) : k.deep = false := by
  cases k with
  | call => exact nomatch h2
  | lst => exact nomatch h
  | exp => exact nomatch h
  | _ => rfl
noncomputable def CodeAt (n : Nat) : Prop := ∀ {c : Cx K} {m : Loc} {H : AH} {E S S' : Addr → Prop} {t t' : T} {u v : Value} {Q : Value → AH → Prop},
  Room c (3 * n + 4) → Rep 1 E H n S t u → Rep 1 E H n S' t' v →
  (∀ b H', Ext H H' → (b = true ↔ code t = code t') → Q (.bool b) H') → WE c (call (.ref 263) [u, v]) m H Q
theorem code_step {n : Nat} (hk : KerAt n) (hc : CodeAt n) : CodeAt (n + 1) := by
  intro c m H E S S' t t' u v Q room hu hv q
  replace hu : Node 1 E H (Rep 1 E H n) S t u := hu
  replace hv : Node 1 E H (Rep 1 E H n) S' t' v := hv
  obtain ⟨k, ds, its, sls, ats, a, fs, tk, av, S1, rfl, ku, -, hau⟩ := hu.head
  obtain ⟨k', ds', its', sls', ats', a', fs', tk', av', S1', rfl, kv, -, hav⟩ := hv.head
  refine fun_in2 (Str.ofString "u") (Str.ofString "v") (fn_same_code _) (j := 3 * n + 6) room (by wtm_at "whnf") (by kernel_rfl) (by kernel_rfl) (fun _ _ _ _ _ _ _ _ => rfl) fun c' e room => ?_
  repeat wtm_at "e1"
  refine we_kind ku ?_
  repeat wtm_at "e1"
  refine we_kind kv ?_
  refine we_neS ?_
  repeat wtm_at "e1"
  refine ite_b (fun hb => ?_) fun hb => ?_
  · repeat wtm_at "e1"
    refine q _ _ Ext.refl ⟨fun x => (nomatch x), fun x => ?_⟩
    rw [code_kind x, bne_self_eq_false] at hb
    cases hb
  obtain rfl : k = k' := by
    rw [bne_eq_false_iff_eq] at hb
    exact Kd.inj hb
  clear hb
  repeat wtm_at "e1"
  refine we_kind ku ?_
  repeat wtm_at "e1"
  refine we_eqS ?_
  repeat wtm_at "e1"
  refine ite_b (fun hb => ?_) fun hb0 => ?_
  · obtain rfl := (kd_beq k .call rfl).mp hb
    cases hu with
    | call hs sa sl sg ng na nl ng2 h1 h2 h3 h4 h5 h6 h7 h8 h9 =>
      cases hv with
      | call hs' sa' sl' sg' ng' na' nl' ng2' h1' h2' h3' h4' h5' h6' h7' h8' h9' =>
        repeat wtm_at "e1"
        refine we_eqLits h3 h3' h5 h5' room.line64 fun r hr => ?_
        refine ⟨r, rfl, ite_b (fun hb => ?_) fun hb => ?_⟩
        · repeat wtm_at "e1"
          refine items_c (j := 3 * n + 5) (fun p => _) room (fun P => by kernel_rfl) h2 h2' (by omega) (by omega) (fun p x y hx hy => fun ee rr qq => hc (rr.mono (by omega)) ((h4.1 _ _ hx).ext ee) ((h4'.1 _ _ hy).ext ee) qq) fun r H1 e1 hr2 => ?_
          repeat wtm_at "e1"
          refine q _ _ e1 ?_
          rw [hr2, code_deep rfl, code_kids Rep.no Rep.no h4 h4']
          exact ⟨fun x => ⟨⟨hr.mp hb, x, rfl⟩, rfl⟩, fun x => x.1.2.1⟩
        · repeat wtm_at "e1"
          refine q _ _ Ext.refl ⟨fun x => (nomatch x), fun x => ?_⟩
          rw [code_deep rfl] at x
          rw [hr.mpr x.1.1] at hb
          cases hb
      | leaf hk' => exact nomatch hk'
      | list hk' => exact nomatch hk'
    | leaf hk => exact nomatch hk
    | list hk => exact nomatch hk
  repeat wtm_at "e1"
  refine we_isV ku ?_
  repeat wtm_at "e1"
  refine ite_b (fun hvec => ?_) fun hvec => ?_
  · repeat wtm_at "e1"
    refine names_c room ku hau fun r1 H1 e1 hr1 => ?_
    repeat wtm_at "e1"
    refine names_c room (kv.ext e1) (hav.ext e1) fun r2 H2 e2 hr2 => ?_
    refine we_neNames (hr1.ext e2) hr2 room.line64 fun b3 hb3 => ?_
    have eH := e1.trans e2
    have hca : ∀ x y, cAts k x = cAts k y ↔ nmA x = nmA y := fun x y => by unfold cAts; rw [if_pos hvec, if_pos hvec]
    repeat wtm_at "e1"
    refine ite_b (fun hb => ?_) fun hb => ?_
    · repeat wtm_at "e1"
      have hb' : b3 ≠ true := fun x => by rw [x] at hb; cases hb
      refine q _ _ eH ⟨fun x => (nomatch x), fun x => (hb' (hb3.mpr ?_)).elim⟩
      cases hd : k.deep with
      | true => rw [code_deep hd, hca, nmA_eq] at x; exact x.2
      | false => rw [code_flat hd, hca, nmA_eq] at x; exact x.2
    have hbt : b3 = true := by cases b3 with
      | true => rfl
      | false => cases hb
    have hnm := hb3.mp hbt
    rw [← nmA_eq, ← hca] at hnm
    repeat wtm_at "e1"
    refine we_kind (ku.ext eH) ?_
    repeat wtm_at "e1"
    refine we_newTuple (Nat.le_of_ble_eq_true rfl) fun tp htp => ?_
    refine we_inT put_self strs3 ?_
    rw [listed]
    repeat wtm_at "e1"
    generalize hHt : AH.put _ tp _ = Ht
    have eT : Ext H Ht := hHt ▸ eH.new htp
    cases hu with
    | leaf hk2 hs sa sl na nl h1 h2 h3 h4 h5 =>
      refine ite_b (fun hb => (nomatch hb.symm.trans (Kd.leafV hk2).2.2)) fun _ => ?_
      repeat wtm_at "e1"
      refine hk (room.mono (by omega)) (((show Rep 1 E H (n + 1) S _ _ from .leaf hk2 hs sa sl na nl h1 h2 h3 h4 h5).weak (Nat.zero_le _)).ext eT) ((Rep.weak (n := n + 1) hv (Nat.zero_le _)).ext eT) fun r H3 e3 hr => ?_
      repeat wtm_at "e1"
      refine q _ _ (eT.trans e3) ?_
      have hd : k.deep = false := by cases k <;> first | rfl | cases hk2
      rw [code_flat hd, hr]
      exact ⟨fun x => ⟨x, hnm⟩, fun x => x.1⟩
    | list hk2 hs sa sl na nl h1 h2 h3 h4 h5 =>
      cases hv with
      | list hk' hs' sa' sl' na' nl' h1' h2' h3' h4' h5' =>
        refine ite_b (fun _ => ?_) fun hb => (nomatch hb.symm.trans hk2)
        have g1 := eT _ _ h1
        have g1' := eT _ _ h1'
        have g2 := eT _ _ h2
        have g2' := eT _ _ h2'
        repeat wtm_at "e1"
        refine items_c (j := 3 * n + 5) (fun p => _) room (fun P => by kernel_rfl) g2 g2' (by omega) (by omega) (fun p x y hx hy => fun ee rr qq => hc (rr.mono (by omega)) ((h3.1 _ _ hx).ext (eT.trans ee)) ((h3'.1 _ _ hy).ext (eT.trans ee)) qq) fun r H1 e3 hr => ?_
        repeat wtm_at "e1"
        refine q _ _ (eT.trans e3) ?_
        have hd : k.deep = true := by cases k <;> first | rfl | cases hk2
        rw [hr, code_deep hd, code_kids Rep.no Rep.no h3 h3']
        exact ⟨fun x => ⟨⟨rfl, x, rfl⟩, hnm⟩, fun x => x.1.2.1⟩
      | leaf hk' => exact nomatch hk2.symm.trans (Kd.leafV hk').2.2
      | _ => exact nomatch hvec
    | _ => exact nomatch hvec
  repeat wtm_at "e1"
  refine hk (room.mono (by omega)) (Rep.weak (n := n + 1) hu (Nat.zero_le _)) (Rep.weak (n := n + 1) hv (Nat.zero_le _)) fun r H3 e3 hr => ?_
  repeat wtm_at "e1"
  refine q _ _ e3 ?_
  have hd : k.deep = false := deep_no hvec hb0
  rw [code_flat hd, hr]
  have ha : cAts k ats = cAts k ats' := by
    cases hu with
    | leaf hk => exact nomatch (Kd.leafV hk).2.1.symm.trans hvec
    | list hk => exact nomatch (Kd.listV hk).2.1.symm.trans hvec
    | call => exact nomatch hb0
    | _ => cases hv with
      | leaf hk => exact nomatch hk
      | list hk => exact nomatch hk
      | _ => rfl
  exact ⟨fun x => ⟨x, ha⟩, fun x => x.1⟩
/-- the row of draws -/
structure RowAt (E : Addr → Prop) (R : Addr) (n : Nat) (H : AH) : Prop where
  at_ : ∃ vs, H R = some (.lst vs) ∧ vs.length ≤ n ∧ ∀ v ∈ vs, ∃ i t, v = Value.int i t
  nE : ¬ E R
theorem RowAt.mono {E : Addr → Prop} {R : Addr} {n n' : Nat} {H : AH} (h : RowAt E R n H) (e : n ≤ n') : RowAt E R n' H := ⟨h.at_.imp fun _ x => ⟨x.1, Nat.le_trans x.2.1 e, x.2.2⟩, h.nE⟩
theorem RowAt.ext {E : Addr → Prop} {R : Addr} {n : Nat} {H H' : AH} (h : RowAt E R n H) (e : Ext H H') : RowAt E R n H' := ⟨h.at_.imp fun _ x => ⟨e _ _ x.1, x.2⟩, h.nE⟩
theorem RowAt.live {E : Addr → Prop} {R : Addr} {n : Nat} {H : AH} (h : RowAt E R n H) : H R ≠ none := by
  obtain ⟨vs, h, _⟩ := h.at_
  exact some_ne h
theorem RowAt.new {E : Addr → Prop} {R : Addr} {n : Nat} {H : AH} {a : Addr} {o : AO} (h : RowAt E R n H) (ha : H a = none) : RowAt E R n (H.put a o) := h.ext (Ext.refl.new ha)
theorem RowAt.same {E S : Addr → Prop} {R : Addr} {n : Nat} {H H' : AH} (h : RowAt E R n H) (e : ExtR R H H') (hS : ¬ S R) : Same S E H H' := by
  obtain ⟨vs, h1, _⟩ := h.at_
  exact e.same hS h.nE h1
theorem Rep.extR {w n k : Nat} {E S : Addr → Prop} {H H' : AH} {R : Addr} {t : T} {v : Value} (h : Rep w E H n S t v) (r : RowAt E R k H) (e : ExtR R H H') (hS : ¬ S R) : Rep w E H' n S t v := h.mono (Nat.le_refl _) (Nat.le_refl _) (r.same e hS) fun _ x => x.1
noncomputable def Fresh (H : AH) : Addr → Prop := fun b => H b = none
theorem RowAt.fresh {E : Addr → Prop} {R : Addr} {n : Nat} {H : AH} (h : RowAt E R n H) : ¬ Fresh H R := h.live

theorem next_c {c : Cx K} {m : Loc} {H : AH} {Q : Value → AH → Prop} {E : Addr → Prop} {R : Addr} {n j : Nat} (room : Room c (j + 1)) (row : RowAt E R n H) (hn : n ≤ 1000)
    (q : ∀ i t H', ExtR R H H' → RowAt E R n H' → (i ≠ 0 → 1 ≤ n ∧ RowAt E R (n - 1) H') → Q (.int i t) H') : WE c (call (.ref 277) [.ref R]) m H Q := by
  obtain ⟨vs, hR, hl, hv⟩ := row.at_
  refine fun_in1 (Str.ofString "row") (fn_next _) room (by wtm_at "whnf") (by kernel_rfl) (by kernel_rfl) (fun _ _ _ _ _ _ _ _ => rfl) fun c' e room => ?_
  repeat wtm_at "e1"
  refine we_newList (Nat.zero_le _) fun x hx => ?_
  refine we_neNil (put_old hx hR) put_self room.line ?_
  repeat wtm_at "e1"
  cases h : vs.isEmpty with
  | true =>
    refine ite_b (fun hb => (nomatch hb)) fun _ => ?_
    repeat wtm_at "e1"
    exact q _ _ _ (ExtR.refl.new hx) (row.new hx) fun x => (x rfl).elim
  | false =>
    refine ite_b (fun _ => ?_) fun hb => (nomatch hb)
    have hne : vs ≠ [] := fun x => by rw [x] at h; cases h
    obtain ⟨vs', y, rfl⟩ : ∃ vs' y, vs = vs' ++ [y] := ⟨vs.dropLast, vs.getLast hne, (List.dropLast_concat_getLast hne).symm⟩
    rw [List.length_append, List.length_singleton] at hl
    obtain ⟨i, t, rfl⟩ := hv y (List.mem_append_right _ (.head _))
    repeat wtm_at "e1"
    refine we_mPop (put_old hx hR) ?_
    repeat wtm_at "e1"
    refine we_pop (put_old hx hR) (by rw [List.length_append, List.length_singleton]; omega) ?_
    repeat wtm_at "e1"
    have r1 : ∀ k, vs'.length ≤ k → RowAt E R k ((H.put x (.lst [])).put R (.lst vs')) := fun k hk => ⟨⟨vs', put_self, hk, fun v hv' => hv v (List.mem_append_left _ hv')⟩, row.nE⟩
    exact q _ _ _ (ExtR.refl.new hx).row (r1 _ (by omega)) fun _ => ⟨by omega, r1 _ (by omega)⟩

theorem row_c {c : Cx K} {m : Loc} {H : AH} {Q : Value → AH → Prop} {E : Addr → Prop} {l : Addr} {vs : List Value} {j : Nat} (room : Room c (j + 1)) (hl : LstAt c H l vs) (hz : vs.length ≤ 1000) (hv : ∀ v ∈ vs, ∃ i t, v = Value.int i t)
    (q : ∀ R H', Ext H H' → H R = none → (¬ E R → RowAt E R 160 H') → Q (.ref R) H') : WE c (call (.ref 270) [.ref l]) m H Q := by
  refine ws_fun (binds := [(Str.ofString "script", .ref l)]) (fn_row _) room.lt (by kernel_rfl) (by kernel_rfl) (fun s hs _ _ _ _ _ _ _ _ => BindsTo.of_eq rfl) fun c' sub => ?_
  have e := sub.env
  have hl' : LstAt c' H l vs := hl.imp_right fun x => x.imp fun o y => ⟨sub.keep _ _ y.1, y.2⟩
  generalize hb : fBody s21 = b
  conv at hb => lhs; whnf
  subst hb
  change WS c' _ [(Str.ofString "script", .ref l)] H _
  repeat wtm_at "e1"
  refine we_newList (Nat.zero_le _) fun r0 hr0 => ?_
  repeat wtm_at "e1"
  refine ws_for e (by kernel_rfl) ?_ (fun _ => rfl)
  refine we_sliceTo ?_
  repeat wtm_at "e1"
  refine ⟨l, vs, 40, _, rfl, rfl, by decide, by omega, hl'.imp_left (put_old hr0), fun l2 hl2 => ?_⟩
  have hl20 := (none_of_put hl2).1
  have hr02 := (none_of_put hl2).2
  refine we_iterL put_self fun it hit => ?_
  have hit1 := none_of_put hit
  have hit0 := (none_of_put hit1.1).1
  have hit2 := (none_of_put hit1.1).2
  refine ⟨it, _, _, _, _, fun i m' H' => Ext H H' ∧ H' it = some (.itl l2 i) ∧ H' l2 = some (.lst (vs.take 40)) ∧ m'.lookup (Str.ofString "row") = some (.ref r0) ∧ ∃ ws, H' r0 = some (.lst ws) ∧ ws.length ≤ 31 * i ∧ ∀ v ∈ ws, ∃ i t, v = Value.int i t, rfl, drives_list (l := l2) (vs := vs.take 40), ?_, ?_, ?_, ?_⟩
  · exact fun i m' H' x => ⟨x.2.1, x.2.2.1⟩
  · exact ⟨((Ext.refl.put hr0).put hl20).put hit0, put_self, put_old hit put_self, by wtm_at "lk", [], put_old hit (put_old hl2 put_self), Nat.zero_le _, fun v hv => (nomatch hv)⟩
  · rintro i v m1 H1 hi hvi ⟨e1, hi1, hl21, hrow, ws, hr1, zw, hw⟩
    have hi40 : i < 40 := by rw [List.length_take] at hi; omega
    obtain ⟨x, tx, rfl⟩ := hv v (List.mem_of_mem_take (List.mem_of_getElem? hvi))
    generalize hH2 : H1.put it (.itl l2 (i + 1)) = H2
    have e2 : Ext H H2 := hH2 ▸ e1.put hit0
    have k2 : H2 it = some (.itl l2 (i + 1)) := hH2 ▸ put_self
    have l22 : H2 l2 = some (.lst (vs.take 40)) := by rw [← hH2, put_ne (Ne.symm hit1.2)]; exact hl21
    have r2 : H2 r0 = some (.lst ws) := by rw [← hH2, put_ne (Ne.symm hit2)]; exact hr1
    wtm_at "e1"
    wtm_at "e1"
    refine WE.mono (Q := fun r H' => H' = H2 ∧ ∃ y t, r = Value.int y t) ?_ ?_
    · repeat wtm_at "e1"
      refine we_geI ?_
      repeat wtm_at "e1"
      refine ite_b (fun _ => ?_) fun _ => ?_
      · repeat wtm_at "e1"
        exact ⟨_, _, rfl⟩
      · repeat wtm_at "e1"
        refine we_subI fun t => ?_
        exact ⟨rfl, _, _, rfl⟩
    rintro _ H2' ⟨rfl, y, t, rfl⟩
    have lf : ∀ w ∈ ws ++ [Value.int (y.fmod 1024) 0], ∃ i t, w = Value.int i t := fun w hw' => by
      rcases List.mem_append.mp hw' with h | h
      · exact hw w h
      · obtain rfl := List.mem_singleton.mp h; exact ⟨_, _, rfl⟩
    repeat wtm_at "e1"
    refine we_mAppend r2 ?_
    repeat wtm_at "e1"
    refine we_modI (by decide) fun t2 => ?_
    repeat wtm_at "e1"
    refine we_append r2 (by omega) ?_
    repeat wtm_at "e1"
    refine we_floorK fun t3 => ?_
    repeat wtm_at "e1"
    refine ws_for e (by kernel_rfl) ?_ (fun _ => rfl)
    repeat wtm_at "e1"
    refine we_range fun ra hra => ?_
    refine we_iterR (n := 30) put_self (by omega) fun it2 hit2' => ?_
    generalize hH3 : AH.put _ ra _ = H3 at hit2' ⊢
    have ra2 := none_of_put hra
    have q1 : H3 r0 = some (.lst (ws ++ [Value.int (y.fmod 1024) t2])) := hH3 ▸ put_old hra put_self
    have q2 : H3 it = some (.itl l2 (i + 1)) := hH3 ▸ put_old hra ((put_ne hit2).trans k2)
    have q3 : H3 l2 = some (.lst (vs.take 40)) := hH3 ▸ put_old hra ((put_ne hr02).trans l22)
    have q4 : Ext H H3 := hH3 ▸ (e2.put hr0).new hra
    have n1 := Ne.symm (ne_of_none hit2' q1)
    have n2 := Ne.symm (ne_of_none hit2' q2)
    have n3 := Ne.symm (ne_of_none hit2' q3)
    have q0 := q4.nn hit2'
    refine ⟨it2, _, _, _, _, fun p m' H' => Ext H H' ∧ H' it2 = some (.itr p ((30 : Nat) - p)) ∧ H' it = some (.itl l2 (i + 1)) ∧ H' l2 = some (.lst (vs.take 40)) ∧ m'.lookup (Str.ofString "row") = some (.ref r0) ∧ (∃ y t, m'.lookup (Str.ofString "figure") = some (.int y t)) ∧ ∃ ws, H' r0 = some (.lst ws) ∧ ws.length ≤ 31 * i + 1 + p ∧ ∀ v ∈ ws, ∃ i t, v = Value.int i t, rfl, drives_range (n := 30), ?_, ?_, ?_, ?_⟩
    · exact fun i m' H' x => ⟨x.2.1, trivial⟩
    · exact ⟨q4.put q0, put_self, put_old hit2' q2, put_old hit2' q3, by wtm_at "lk", ⟨_, _, lk_here⟩, _, put_old hit2' q1, by simp; omega, fun v hv => by
        rcases List.mem_append.mp hv with h | h
        · exact hw v h
        · obtain rfl := List.mem_singleton.mp h; exact ⟨_, _, rfl⟩⟩
    · rintro p _ m2 H4 hp ⟨tl, rfl⟩ ⟨f1, f2, f3, f4, f5, ⟨z, tz, f6⟩, ws2, f7, f8, f9⟩
      generalize hH5 : H4.put it2 (.itr ((p + 1 : Nat) : Int) ((30 : Nat) - ((p + 1 : Nat) : Int))) = H5
      have g1 : Ext H H5 := hH5 ▸ f1.put q0
      have g2 : H5 it2 = some (.itr ((p + 1 : Nat) : Int) ((30 : Nat) - ((p + 1 : Nat) : Int))) := hH5 ▸ put_self
      have g3 : H5 it = _ := hH5 ▸ (put_ne n2).trans f3
      have g4 : H5 l2 = _ := hH5 ▸ (put_ne n3).trans f4
      have g5 : H5 r0 = _ := hH5 ▸ (put_ne n1).trans f7
      repeat wtm_at "e1"
      refine we_gtI ?_
      repeat wtm_at "e1"
      refine ite_b (fun _ => ?_) fun _ => ?_
      · repeat wtm_at "e1"
        refine we_mAppend g5 ?_
        repeat wtm_at "e1"
        refine we_modI (by decide) fun t2 => ?_
        repeat wtm_at "e1"
        refine we_append g5 (by omega) ?_
        repeat wtm_at "e1"
        refine we_floorK fun t3 => ?_
        repeat wtm_at "e1"
        refine turn_next ⟨g1.put hr0, (put_ne (Ne.symm n1)).trans g2, (put_ne hit2).trans g3, (put_ne hr02).trans g4, by wtm_at "lk", ⟨_, _, lk_here⟩, _, put_self, by simp; omega, fun v hv => ?_⟩
        rcases List.mem_append.mp hv with h | h
        · exact f9 v h
        · obtain rfl := List.mem_singleton.mp h; exact ⟨_, _, rfl⟩
      · repeat wtm_at "e1"
        exact turn_next ⟨g1, g2, g3, g4, by wtm_at "lk", ⟨z, tz, by wtm_at "lk"⟩, _, g5, by omega, f9⟩
    · rintro m2 H4 ⟨f1, f2, f3, f4, f5, f6, ws2, f7, f8, f9⟩
      repeat wtm_at "e1"
      exact turn_next ⟨f1.del q0, (del_ne n2).trans f3, (del_ne n3).trans f4, f5, _, (del_ne n1).trans f7, by omega, f9⟩
  · rintro m1 H1 ⟨e1, hi1, hl21, hrow, ws, hr1, zw, hw⟩
    have hn40 : (vs.take 40).length ≤ 40 := by rw [List.length_take]; omega
    have g1 : Ext H (H1.del it) := e1.del hit0
    have g2 : (H1.del it) r0 = _ := (del_ne (Ne.symm hit2)).trans hr1
    generalize hH5 : H1.del it = H5 at g1 g2 ⊢
    wtm_at "e1"
    wtm_at "e1"
    wtm_at "e1"
    refine we_sliceTo ?_
    repeat wtm_at "e1"
    refine ⟨r0, ws, 160, _, rfl, rfl, by decide, by omega, .inl g2, fun r5 hr5 => ?_⟩
    repeat wtm_at "e1"
    refine we_mReverse put_self ?_
    repeat wtm_at "e1"
    refine we_reverse put_self (by rw [List.length_take]; omega) ?_
    repeat wtm_at "e1"
    have hrn := g1.nn hr5
    refine q _ _ ((g1.put hrn).put hrn) hrn fun nE => ⟨⟨_, put_self, by rw [List.length_reverse, List.length_take]; show min 160 _ ≤ 160; omega, fun v hv => hw v (List.mem_of_mem_take (List.mem_reverse.mp hv))⟩, nE⟩
/-- how a room may go on: what stays, what is new -/
structure XRel (E : Addr → Prop) (X : AH → AH → Prop) (Ok : Addr → Prop) : Prop where
  trans : ∀ {H H' H'' : AH}, X H H' → X H' H'' → X H H''
  put : ∀ {H H' : AH} {a : Addr} {o : AO}, X H H' → H a = none → X H (H'.put a o)
  del : ∀ {H H' : AH} {a : Addr}, X H H' → H a = none → X H (H'.del a)
  nn : ∀ {H H' : AH} {a : Addr}, X H H' → H' a = none → H a = none
  keep : ∀ {H H' : AH} {b : Addr} {o : AO}, X H H' → Ok b → H b = some o → H' b = some o
  same : ∀ {H H' : AH} {S : Addr → Prop}, X H H' → (∀ b, S b → Ok b) → Same S E H H'
theorem xrel_ext (E : Addr → Prop) : XRel E Ext (fun _ => True) := ⟨Ext.trans, Ext.put, Ext.del, Ext.nn, fun h _ e => h _ _ e, fun h _ => h.same⟩
structure XR (E : Addr → Prop) (R : Addr) (n : Nat) (H H' : AH) : Prop where
  r : RowAt E R n H
  ext : ExtR R H H'
  r' : RowAt E R n H'
theorem RowAt.put {E : Addr → Prop} {R : Addr} {n : Nat} {H : AH} {a : Addr} {o : AO} (h : RowAt E R n H) (ha : a ≠ R) : RowAt E R n (H.put a o) := ⟨h.at_.imp fun _ x => ⟨(put_ne (Ne.symm ha)).trans x.1, x.2⟩, h.nE⟩
theorem RowAt.del {E : Addr → Prop} {R : Addr} {n : Nat} {H : AH} {a : Addr} (h : RowAt E R n H) (ha : a ≠ R) : RowAt E R n (H.del a) := ⟨h.at_.imp fun _ x => ⟨(del_ne (Ne.symm ha)).trans x.1, x.2⟩, h.nE⟩
theorem RowAt.ne {E : Addr → Prop} {R : Addr} {n : Nat} {H : AH} {a : Addr} (h : RowAt E R n H) (ha : H a = none) : a ≠ R := fun e => h.live (e ▸ ha)
theorem xrel_row (E : Addr → Prop) (R : Addr) (n : Nat) : XRel E (XR E R n) (fun b => b ≠ R) :=
  ⟨fun h h' => ⟨h.r, h.ext.trans h'.ext, h'.r'⟩, fun h ha => ⟨h.r, h.ext.put ha, h.r'.put (h.r.ne ha)⟩, fun h ha => ⟨h.r, h.ext.del ha, h.r'.del (h.r.ne ha)⟩, fun h ha => h.ext.nn ha, fun h hb e => h.ext.keep _ _ e hb, fun h hS => h.r.same h.ext fun x => hS _ x rfl⟩
theorem same_put {S E : Addr → Prop} {H : AH} {a : Addr} {o o' : AO} (ha : H a = some o') (hS : ¬ S a) (hE : ¬ E a) (ht : o'.isTup = false) : Same S E H (H.put a o) := fun b o2 h x => by
  rw [put_ne]; exact h
  rintro rfl
  rcases x with x | x | x
  · exact hS x
  · exact hE x
  · rw [ha] at h; cases h; exact nomatch ht.symm.trans x
theorem same_del {S E : Addr → Prop} {H : AH} {a : Addr} {o' : AO} (ha : H a = some o') (hS : ¬ S a) (hE : ¬ E a) (ht : o'.isTup = false) : Same S E H (H.del a) := fun b o2 h x => by
  rw [del_ne]; exact h
  rintro rfl
  rcases x with x | x | x
  · exact hS x
  · exact hE x
  · rw [ha] at h; cases h; exact nomatch ht.symm.trans x
theorem same_trans {S E : Addr → Prop} {H H' H'' : AH} (h : Same S E H H') (h' : Same S E H' H'') : Same S E H H'' := fun b o e x => h' b o (h b o e x) x

/-- an element of a list that is being made -/
structure Elem (E : Addr → Prop) (El : Nat → (Addr → Prop) → Value → AH → Prop) : Prop where
  mono : ∀ {i : Nat} {S S' : Addr → Prop} {y : Value} {H H' : AH}, El i S y H → Same S E H H' → (∀ b, Live H S b → S' b) → El i S' y H'
theorem comp_X {X : AH → AH → Prop} {Ok E : Addr → Prop} (xr : XRel E X Ok) {c : Cx K} {m : Loc} {Hs H2 : AH} {Q : Addr → AH → Prop} {elt : Expr} {scope : Scope} {cl : List (Str × Addr)} {x : Str}
    {it : Addr} {n : Nat} {st : Nat → AO} {side : AH → Prop} {P : Nat → Value → Prop} {El : Nat → (Addr → Prop) → Value → AH → Prop} (el : Elem E El)
    (x0 : X Hs H2) (hit : Hs it = none) (hs0 : H2 it = some (st 0)) (hn : n ≤ 1000) (hst : ∀ i, (st i).isTup = false) (Dr : ∀ D, Drives (c.comp scope cl D) it n st side P) (Sf : ∀ D, Selfs (c.comp scope cl D) it (st 0))
    (hside : ∀ H', X Hs H' → side H') (ok : ∀ b, Hs b = none → Ok b) (hE : ∀ b, E b → Hs b ≠ none)
    (step : ∀ i v D H1 fs, i < n → P i v → X Hs H1 → H1 D = some (.ns ((x, v) :: fs)) → ∀ Q' : Value → AH → Prop, (∀ y H4, X H1 H4 → El i (Fresh H1) y H4 → Q' y H4) → WE (c.comp scope cl D) (eval elt (c.comp scope cl D).env) m H1 Q')
    (fin : ∀ l vs H3, X Hs H3 → Hs l = none → H3 l = some (.lst vs) → vs.length = n → (∀ i v, vs[i]? = some v → El i (fun b => Hs b = none ∧ b ≠ l) v H3) → Q l H3) : CompOk c x elt scope cl m (.ref it) H2 Q := by
  refine ⟨it, n, st, side, P, rfl, by rw [hs0]; rfl, Dr, Sf, fun acc D hacc hD hne => ?_⟩
  have ha0 := xr.nn x0 hacc
  have hD0 := xr.nn x0 hD
  have nai : it ≠ acc := (ne_of_none hacc hs0).symm
  have nDi : it ≠ D := (ne_of_none hD hs0).symm
  have S : ∀ b : Addr, Hs b = none → ¬ E b := fun b h x => hE b x h
  refine ⟨fun i vs H' => X Hs H' ∧ H' it = some (st i) ∧ H' acc = some (.lst vs) ∧ vs.length = i ∧ i ≤ n ∧ (∃ fs, H' D = some (.ns fs)) ∧ ∀ i v, vs[i]? = some v → El i (fun b => Hs b = none ∧ b ≠ acc ∧ b ≠ it ∧ b ≠ D) v H', ?_, ?_, ?_, ?_⟩
  · exact fun i vs H' h => ⟨h.2.1, hside _ h.1, h.2.2.1, by rw [h.2.2.2.1]; exact Nat.le_trans h.2.2.2.2.1 hn, h.2.2.2.2.2.1⟩
  · exact ⟨xr.put (xr.put x0 ha0) hD0, (put_ne nDi).trans ((put_ne nai).trans hs0), (put_ne hne).trans put_self, rfl, Nat.zero_le _, ⟨_, put_self⟩, fun i v h => by simp at h⟩
  · rintro i v vs H1 fs hi hP ⟨j1, j2, j3, j4, j5, j6, j7⟩ hDf
    have x1 : X Hs ((H1.put it (st (i + 1))).put D (.ns ((x, v) :: fs))) := xr.put (xr.put j1 hit) hD0
    refine step i v D _ fs hi hP x1 put_self _ fun y H4 x4 hy => ?_
    have a4 : H4 acc = some (.lst vs) := xr.keep x4 (ok _ ha0) ((put_ne hne).trans ((put_ne nai.symm).trans j3))
    have d1 : (H1.put it (st (i + 1))) D = some (.ns fs) := (put_ne nDi.symm).trans hDf
    have sm : ∀ {S' : Addr → Prop}, (∀ b, S' b → b ≠ acc) → Same S' E H4 (H4.put acc (.lst (vs ++ [y]))) := fun hS' => same_put a4 (fun h => hS' _ h rfl) (S _ ha0) rfl
    refine ⟨a4, xr.put (xr.trans x1 x4) ha0, (put_ne nai).trans (xr.keep x4 (ok _ hit) ((put_ne nDi).trans put_self)), put_self, by rw [List.length_append, List.length_singleton, j4], hi, ⟨_, (put_ne (Ne.symm hne)).trans (xr.keep x4 (ok _ hD0) put_self)⟩, fun p w hw => ?_⟩
    rcases Nat.lt_trichotomy p vs.length with hp | hp | hp
    · rw [List.getElem?_append_left hp] at hw
      refine el.mono (j7 p w hw) ?_ fun _ h => h.1
      exact same_trans (same_trans (same_trans (same_put j2 (fun h => h.2.2.1 rfl) (S _ hit) (hst i)) (same_put d1 (fun h => h.2.2.2 rfl) (S _ hD0) rfl)) (xr.same x4 fun b h => ok _ h.1)) (sm fun b h => h.2.1)
    · subst hp
      rw [List.getElem?_concat_length] at hw
      cases hw
      rw [j4]
      refine el.mono hy (sm fun b h => by rintro rfl; exact absurd h (some_ne ((put_ne hne).trans ((put_ne nai.symm).trans j3)))) fun b h => ⟨xr.nn x1 h.1, ?_, ?_, ?_⟩
      · rintro rfl; exact absurd h.1 (some_ne ((put_ne hne).trans ((put_ne nai.symm).trans j3)))
      · rintro rfl; exact absurd h.1 (some_ne ((put_ne nDi).trans put_self))
      · rintro rfl; exact absurd h.1 (some_ne put_self)
    · rw [List.getElem?_eq_none (by rw [List.length_append, List.length_singleton]; omega)] at hw
      cases hw
  · rintro vs H1 ⟨j1, j2, j3, j4, j5, ⟨fs, j6⟩, j7⟩
    refine fin acc vs _ (xr.del (xr.del j1 hit) hD0) ha0 ((del_ne hne).trans ((del_ne nai.symm).trans j3)) j4 fun p w hw => el.mono (j7 p w hw) ?_ fun b h => ⟨h.1.1, h.1.2.1⟩
    exact same_trans (same_del j2 (fun h => h.2.2.1 rfl) (S _ hit) (hst n)) (same_del ((del_ne nDi.symm).trans j6) (fun h => h.2.2.2 rfl) (S _ hD0) rfl)
theorem fmod_lo {i k : Int} (h : 0 < k) : 0 ≤ i.fmod k := Int.fmod_nonneg_of_pos _ h
theorem fmod_hi {i k : Int} (h : 0 < k) : i.fmod k < k := Int.fmod_lt_of_pos _ h
theorem fmod_ne {i k : Int} (h : i.fmod k ≠ 0) : i ≠ 0 := fun e => h (by rw [e]; exact Int.zero_fmod k)
section
variable {c : Cx K} {m : Loc} {H : AH} {Q : Value → AH → Prop} {E : Addr → Prop} {R : Addr} {n j : Nat} {sc : Scope} {cl : List (Str × Addr)} {D : Addr}
theorem next_cell {a : Addr} {k : Int} {tk : Nat} {p1 p2 p3 p4 p5 : Pos} (e : EnvIs c sc cl D) (hk1 : kindIs sc (Str.ofString "_law_next") .globalImplicit = true) (hk2 : kindIs sc (Str.ofString "row") .cell = true) (hc : List.lookup (Str.ofString "row") cl = some a) (ha : H a = some (.cell (some (.ref R))))
    (room : Room c (j + 1)) (row : RowAt E R n H) (hn : n ≤ 1000) (hkk : 0 < k)
    (q : ∀ i t H', 0 ≤ i → i < k → XR E R n H H' → (i ≠ 0 → 1 ≤ n ∧ RowAt E R (n - 1) H') → Q (.int i t) H') : WE c (eval (.BinOp (.Call (.Name (Str.ofString "_law_next") p1) [.Name (Str.ofString "row") p2] [] p3) .Mod (.Constant (.int k) tk p4) p5) c.env) m H Q := by
  wtm_at "e1"
  wtm_at "e1"
  refine gl_law_next e hk1 ?_
  wtm_at "e1"
  wtm_at "e1"
  refine we_cell e hk2 hc ha ?_
  repeat wtm_at "e1"
  refine next_c room row hn fun i t H' x r h => ?_
  repeat wtm_at "e1"
  refine we_modI (by omega) fun t2 => ?_
  exact q _ _ _ (fmod_lo hkk) (fmod_hi hkk) ⟨row, x, r⟩ fun hne => h (fmod_ne hne)
theorem next_local {k : Int} {tk : Nat} {p1 p2 p3 p4 p5 : Pos} (e : EnvIs c sc cl c.L) (hk1 : kindIs sc (Str.ofString "_law_next") .globalImplicit = true) (hk2 : kindIs sc (Str.ofString "row") .local = true) (hc : List.lookup (Str.ofString "row") m = some (.ref R))
    (room : Room c (j + 1)) (row : RowAt E R n H) (hn : n ≤ 1000) (hkk : 0 < k)
    (q : ∀ i t H', 0 ≤ i → i < k → XR E R n H H' → (i ≠ 0 → 1 ≤ n ∧ RowAt E R (n - 1) H') → Q (.int i t) H') : WE c (eval (.BinOp (.Call (.Name (Str.ofString "_law_next") p1) [.Name (Str.ofString "row") p2] [] p3) .Mod (.Constant (.int k) tk p4) p5) c.env) m H Q := by
  wtm_at "e1"
  wtm_at "e1"
  refine gl_law_next e hk1 ?_
  wtm_at "e1"
  wtm_at "e1"
  refine we_local e hk2 hc ?_
  repeat wtm_at "e1"
  refine next_c room row hn fun i t H' x r h => ?_
  repeat wtm_at "e1"
  refine we_modI (by omega) fun t2 => ?_
  exact q _ _ _ (fmod_lo hkk) (fmod_hi hkk) ⟨row, x, r⟩ fun hne => h (fmod_ne hne)
end
/-- the homes -/
structure HomesAt (E : Addr → Prop) (R hl : Addr) (H : AH) : Prop where
  at_ : ∃ e1 e2, H hl = some (.lst [.ref e1, .ref e2]) ∧ (E e1 ∧ ∃ t t' i f l, H e1 = some (.inst 175 (fEnv t t' i f l))) ∧ (E e2 ∧ ∃ t t' i f l, H e2 = some (.inst 175 (fEnv t t' i f l)))
  ne : hl ≠ R
  live : ∀ b, E b → H b ≠ none
theorem HomesAt.go {E : Addr → Prop} {R hl : Addr} {H H' : AH} (h : HomesAt E R hl H) (e : ExtR R H H') (hE : ¬ E R) : HomesAt E R hl H' := by
  obtain ⟨e1, e2, h1, ⟨h2, t, t', i, f, l, h3⟩, h4, u, u', i', f', l', h5⟩ := h.at_
  refine ⟨⟨e1, e2, e.keep _ _ h1 h.ne, ⟨h2, t, t', i, f, l, e.keep _ _ h3 fun x => hE (x ▸ h2)⟩, h4, u, u', i', f', l', e.keep _ _ h5 fun x => hE (x ▸ h4)⟩, h.ne, fun b hb => ?_⟩
  cases q : H b with
  | none => exact (h.live b hb q).elim
  | some o => exact some_ne (e.keep _ _ q fun x => hE (x ▸ hb))
/-- the room within _law_made -/
structure MS (c : Cx K) (E : Addr → Prop) (R hl : Addr) (deep : Int) (td : Tok) (H0 : AH) (n : Nat) (H : AH) : Prop where
  ext : ExtR R H0 H
  row : RowAt E R n H
  c1 : H (c.L + 1) = some (.cell (some (.ref R)))
  c2 : H (c.L + 1 + 1) = some (.cell (some (.int deep td)))
  c3 : H (c.L + 1 + 2) = some (.cell (some (.ref hl)))
  n1 : H0 (c.L + 1) = none
  n2 : H0 (c.L + 1 + 1) = none
  n3 : H0 (c.L + 1 + 2) = none
  r0 : H0 R ≠ none
  e0 : ∀ b, E b → H0 b ≠ none
  homes : HomesAt E R hl H
section
variable {c : Cx K} {E : Addr → Prop} {R hl : Addr} {deep : Int} {td : Tok} {H0 H H' : AH} {n k : Nat}
theorem MS.go (h : MS c E R hl deep td H0 n H) (e : ExtR R H H') (r : RowAt E R k H') : MS c E R hl deep td H0 k H' :=
  have ne : ∀ {a}, H0 a = none → a ≠ R := fun ha x => h.r0 (x ▸ ha)
  ⟨h.ext.trans e, r, e.keep _ _ h.c1 (ne h.n1), e.keep _ _ h.c2 (ne h.n2), e.keep _ _ h.c3 (ne h.n3), h.n1, h.n2, h.n3, h.r0, h.e0, h.homes.go e r.nE⟩
theorem MS.x (h : MS c E R hl deep td H0 n H) (x : XR E R k H H') : MS c E R hl deep td H0 k H' := h.go x.ext x.r'
theorem MS.new {a : Addr} {o : AO} (h : MS c E R hl deep td H0 n H) (ha : H a = none) : MS c E R hl deep td H0 n (H.put a o) := h.go (ExtR.refl.new ha) (h.row.new ha)
theorem MS.low (h : MS c E R hl deep td H0 n H) (r : RowAt E R k H) : MS c E R hl deep td H0 k H := h.go ExtR.refl r
end
/-- what _law_made does -/
noncomputable def MadeAt (n : Nat) : Prop := ∀ {c : Cx K} {m : Loc} {H : AH} {E : Addr → Prop} {R hl : Addr} {deep : Int} {td : Tok} {Q : Value → AH → Prop}, Room c (n + 5) → n ≤ 160 → RowAt E R n H → HomesAt E R hl H →
  (∀ t v H', XR E R n H H' → Rep 2 E H' (n + 1) (Fresh H) t v → Q v H') → WE c (call (.ref 282) [.ref R, .int deep td, .ref hl]) m H Q
theorem kids_of {R : T → Value → Prop} {vs : List Value} (h : ∀ (i : Nat) (v : Value), vs[i]? = some v → ∃ t, R t v) : ∃ its, Kids R vs its := by
  have f : ∀ i : Nat, ∃ t : T, (∀ v, vs[i]? = some v → R t v) ∧ (vs.length ≤ i → t = .no) := fun i => by
    by_cases hi : i < vs.length
    · obtain ⟨t, ht⟩ := h i vs[i] (by simp [hi])
      exact ⟨t, fun v hv => (by rw [List.getElem?_eq_getElem hi] at hv; cases hv; exact ht), fun h => absurd h (by omega)⟩
    · exact ⟨.no, fun v hv => (by rw [List.getElem?_eq_none (by omega)] at hv; cases hv), fun _ => rfl⟩
  exact ⟨fun i => Classical.choose (f i), fun i v hv => (Classical.choose_spec (f i)).1 v hv, fun i hi => (Classical.choose_spec (f i)).2 hi⟩
theorem rep_elem (w : Nat) (E : Addr → Prop) (n : Nat) : Elem E (fun _ S y H => ∃ t, Rep w E H n S t y) := ⟨fun h hs hl => h.imp fun _ r => r.mono (Nat.le_refl _) (Nat.le_refl _) hs hl⟩
theorem fresh_sub {E : Addr → Prop} {R : Addr} {n : Nat} {H H' : AH} (x : XR E R n H H') : ∀ b, Fresh H' b → Fresh H b := fun b h => x.ext.nn h

theorem made_kids {c : Cx K} {m : Loc} {H0 H : AH} {Q : Value → AH → Prop} {E : Addr → Prop} {R hl : Addr} {deep : Int} {td : Tok} {n : Nat} {cl0 cl : List (Str × Addr)} {scope : Scope} {sc : Scope} {p1 p2 p3 p4 p5 p6 p7 p8 q1 q2 q3 q4 q5 q6 q7 pos : Pos} {k1 k2 : Nat}
    (ih : MadeAt n) (room : Room c (n + 5)) (hn : n ≤ 160) (ms : MS c E R hl deep td H0 n H)
    (e : EnvIs c sc cl0 c.L) (hcl : closeL cl0 scope.names [] = some cl) (hnm : compNames scope = true) (hkd : scope.kind = .function) (l1 : List.lookup (Str.ofString "row") cl = some (c.L + 1)) (l2 : List.lookup (Str.ofString "deep") cl = some (c.L + 1 + 1)) (l3 : List.lookup (Str.ofString "homes") cl = some (c.L + 1 + 2)) (l4 : List.lookup (Str.ofString "row") cl0 = some (c.L + 1))
    (s1 : kindIs (relabelS scope sc) (Str.ofString "lap") .local = true) (s2 : kindIs (relabelS scope sc) (Str.ofString "row") .cell = true) (s3 : kindIs (relabelS scope sc) (Str.ofString "deep") .cell = true) (s4 : kindIs (relabelS scope sc) (Str.ofString "homes") .cell = true) (s5 : kindIs (relabelS scope sc) (Str.ofString "_law_made") .globalImplicit = true)
    (s6 : kindIs sc (Str.ofString "range") .globalImplicit = true) (s7 : kindIs sc (Str.ofString "_law_next") .globalImplicit = true) (s8 : kindIs sc (Str.ofString "row") .cell = true)
    (q : ∀ l vs its H', XR E R n H H' → H l = none → H' l = some (.lst vs) → vs.length ≤ 2 → Kids (Rep 2 E H' (n + 1) (fun b => H b = none ∧ b ≠ l)) vs its → Q (.ref l) H') :
    WE c (eval (.ListComp (.Call (.Name (Str.ofString "_law_made") p1) [.Name (Str.ofString "row") p2, .BinOp (.Name (Str.ofString "deep") p3) .Sub (.Constant (.int 1) k1 p4) p5, .Name (Str.ofString "homes") p6] [] p7) [⟨.Name (Str.ofString "lap") p8, .Call (.Name (Str.ofString "range") q1) [.BinOp (.Call (.Name (Str.ofString "_law_next") q2) [.Name (Str.ofString "row") q3] [] q4) .Mod (.Constant (.int 3) k2 q5) q6] [] q7, [], 0⟩] scope pos) c.env) m H Q := by
  refine we_listComp ⟨e, hcl, hnm, hkd, fun _ => rfl⟩ s1 ?_
  wtm_at "e1"
  refine gl_range e s6 ?_
  wtm_at "e1"
  wtm_at "e1"
  refine next_cell e s7 s8 l4 ms.c1 room ms.row (by omega) (by decide) fun i t H1 i0 i3 x1 _ => ?_
  repeat wtm_at "e1"
  obtain ⟨k, rfl⟩ := Int.eq_ofNat_of_zero_le i0
  refine we_range fun ra hra => ?_
  have ms2 := (ms.x x1).new hra (o := .rng k)
  have x2 : XR E R n H (H1.put ra (.rng k)) := (xrel_row E R n).put x1 (x1.ext.nn hra)
  have hr2 : (H1.put ra (.rng k)) ra = some (.rng k) := put_self
  generalize H1.put ra (.rng k) = H2 at ms2 x2 hr2 ⊢
  refine we_iterR hr2 (by omega) fun it hit => ?_
  have xh := xrel_row E R n
  have hit0 := xh.nn x2 hit
  refine comp_X xh (rep_elem 2 E (n + 1)) (Hs := H) (n := k) (st := fun i => .itr i ((k : Int) - i)) (xh.put x2 hit0) hit0 put_self (by omega) (fun _ => rfl) (fun D => drives_range) (fun D => self_range) (fun _ _ => trivial) (fun b hb => ms.row.ne hb) ms.homes.live ?_ ?_
  · rintro p v D H3 fs hp ⟨tv, rfl⟩ x3 hD Q' q'
    have ms3 := ms.x x3
    have g1 := ms3.c1
    have g2 := ms3.c2
    have g3 := ms3.c3
    have e' : EnvIs (c.comp scope cl D) (relabelS scope sc) cl D := comp_env e
    wtm_at "e1"
    refine gl_law_made e' s5 ?_
    wtm_at "e1"
    wtm_at "e1"
    refine we_cell e' s2 l1 g1 ?_
    wtm_at "e1"
    wtm_at "e1"
    refine we_cell e' s3 l2 g2 ?_
    repeat wtm_at "e1"
    refine we_subI fun t4 => ?_
    wtm_at "e1"
    refine we_cell e' s4 l3 g3 ?_
    wtm_at "e1"
    refine ih (c := c.comp scope cl D) room hn ms3.row ms3.homes fun t v H4 x4 hr => ?_
    exact q' _ _ x4 ⟨t, hr⟩
  · intro l vs H3 x3 hl hl3 hlen hk
    obtain ⟨its, hk⟩ := kids_of hk
    exact q l vs its H3 x3 hl hl3 (by omega) hk
noncomputable def ifBody : Stmt → List Stmt
  | .If _ b _ _ => b
  | _ => []
noncomputable def ifElse : Stmt → List Stmt
  | .If _ _ b _ => b
  | _ => []
theorem Dic.nil {R : T → Value → Prop} : Dic R [] noA := ⟨.nil, fun _ _ h => (nomatch h), fun _ _ => rfl⟩
theorem Dic.cons {R : T → Value → Prop} {fs : List (Str × Value)} {ats : Str → T} {x : Str} {u : Value} {t : T} (h : Dic R fs ats) (hx : fs.lookup x = Option.none) (hr : R t u) : Dic R ((x, u) :: fs) (fun y => if y = x then t else ats y) := by
  refine ⟨List.nodup_cons.mpr ⟨fun hm => ?_, h.nodup⟩, fun y w hy => ?_, fun y hy => ?_⟩
  · have := lookup_mem.mpr hm; rw [hx] at this; cases this
  · by_cases e : y = x
    · subst e
      rw [if_pos rfl]
      rw [lk_here] at hy
      cases hy
      exact hr
    · rw [if_neg e]
      rw [List.lookup_cons, beq_eq_false_iff_ne.mpr e] at hy
      exact h.some y w hy
  · by_cases e : y = x
    · subst e
      rw [lk_here] at hy
      cases hy
    · rw [if_neg e]
      rw [List.lookup_cons, beq_eq_false_iff_ne.mpr e] at hy
      exact h.none y hy
/-- a vector that is made, without attributes as yet -/
noncomputable def VecAt (E : Addr → Prop) (H0 : AH) (n : Nat) (H : AH) (a : Addr) : Prop := ∃ kd t l vs, H a = some (.inst 88 (fVec kd t l .none)) ∧ H0 a = none ∧ H0 l = none ∧ a ≠ l ∧ H l = some (.lst vs) ∧ vs.length ≤ 4 ∧
  ((kd.isLeaf = true ∧ ∃ ds, LitsAre H vs ds) ∨ (kd.isList = true ∧ ∃ its, Kids (Rep 2 E H n (fun b => H0 b = none ∧ b ≠ a ∧ b ≠ l)) vs its))
theorem VecAt.go {E : Addr → Prop} {H0 H H' : AH} {n k : Nat} {a R : Addr} (h : VecAt E H0 n H a) (hr : H0 R ≠ none) (r : RowAt E R k H) (e : ExtR R H H') : VecAt E H0 n H' a := by
  obtain ⟨kd, t, l, vs, h1, h2, h3, h4, h5, h6, h7⟩ := h
  have ne : ∀ {a}, H0 a = none → a ≠ R := fun ha x => hr (x ▸ ha)
  have sm : Same (fun b => H0 b = none ∧ b ≠ a ∧ b ≠ l) E H H' := r.same e fun x => hr x.1
  refine ⟨kd, t, l, vs, e.keep _ _ h1 (ne h2), h2, h3, h4, e.keep _ _ h5 (ne h3), h6, h7.imp (fun x => ⟨x.1, x.2.imp fun _ y => y.mono (tups sm)⟩) fun x => ⟨x.1, x.2.imp fun _ y => y.mono fun t v z => z.mono (Nat.le_refl _) (Nat.le_refl _) sm fun _ w => w.1⟩⟩
theorem VecAt.done {E : Addr → Prop} {H0 H : AH} {n : Nat} {a : Addr} (h : VecAt E H0 n H a) : ∃ t, Rep 2 E H (n + 1) (Fresh H0) t (.ref a) := by
  obtain ⟨kd, t, l, vs, h1, h2, h3, h4, h5, h6, h7⟩ := h
  rcases h7 with ⟨hk, ds, hd⟩ | ⟨hk, its, hd⟩
  · exact ⟨_, Node.leaf (S' := fun b => H0 b = none ∧ b ≠ a ∧ b ≠ l) hk (fun b x => x.1) h2 h3 (fun x => x.2.1 rfl) (fun x => x.2.2 rfl) h1 h5 hd (by omega) .none⟩
  · exact ⟨_, Node.list (S' := fun b => H0 b = none ∧ b ≠ a ∧ b ≠ l) hk (fun b x => x.1) h2 h3 (fun x => x.2.1 rfl) (fun x => x.2.2 rfl) h1 h5 hd (by omega) .none⟩
/-- the vector with its attributes -/
theorem VecAt.with {E : Addr → Prop} {H0 H1 H : AH} {n k : Nat} {a d R : Addr} {ats : Str → T} {fs : List (Str × Value)} {ep : Nat} (h : VecAt E H0 n H1 a) (hd1 : H1 d = none) (hd0 : H0 d = none) (hr : H0 R ≠ none) (r : RowAt E R k H1) (e : ExtR R H1 H)
    (hE : ∀ b, E b → H0 b ≠ none) (hd : H d = some (.dct fs ep)) (hz : fs.length ≤ 10)
    (hc : Dic (Rep 2 E H n (fun b => H0 b = none ∧ H1 b = none ∧ b ≠ d)) fs ats) (hn : NamesOk (ats (Str.ofString "names"))) (hu : ats (Str.ofString "unit") ≠ .no) :
    ∃ f2, H a = some (.inst 88 f2) ∧ f2.length ≤ 900 ∧ ∃ t, Rep 2 E (H.put a (.inst 88 (putF (Str.ofString "attrs") (.ref d) f2))) (n + 1) (Fresh H0) t (.ref a) := by
  obtain ⟨kd, t, l, vs, h1, h2, h3, h4, h5, h6, h7⟩ := h
  have ne : ∀ {a}, H0 a = none → a ≠ R := fun ha x => hr (x ▸ ha)
  have g1 := e.keep _ _ h1 (ne h2)
  have g5 := e.keep _ _ h5 (ne h3)
  have nda : d ≠ a := ne_of_none hd1 h1
  have ndl : d ≠ l := ne_of_none hd1 h5
  refine ⟨_, g1, Nat.le_of_ble_eq_true rfl, ?_⟩
  have hpf : putF (Str.ofString "attrs") (.ref d) (fVec kd t l .none) = fVec kd t l (.ref d) := by kernel_rfl
  rw [hpf]
  generalize hHn : AH.put H a (.inst 88 (fVec kd t l (.ref d))) = Hn
  have sm : ∀ {S : Addr → Prop}, ¬ S a → Same S E H Hn := fun hS => hHn ▸ same_put g1 hS (fun x => hE a x h2) rfl
  have k1 : Hn a = some (.inst 88 (fVec kd t l (.ref d))) := hHn ▸ put_self
  have kd' : Hn d = some (.dct fs ep) := hHn ▸ (put_ne nda).trans hd
  have kl : Hn l = some (.lst vs) := hHn ▸ (put_ne h4.symm).trans g5
  have at_ : Attrs 2 Hn (Rep 2 E Hn n) (Fresh H0) (fun b => H0 b = none ∧ b ≠ a ∧ b ≠ l ∧ b ≠ d) (.ref d) ats := .some kd' hd0 (fun x => x.2.2.2 rfl) (hc.mono fun t v r => r.mono (Nat.le_refl _) (Nat.le_refl _) (sm fun x => absurd x.2.1 (some_ne h1)) fun b x => ⟨x.1.1, fun y => absurd x.1.2.1 (y ▸ some_ne h1), fun y => absurd x.1.2.1 (y ▸ some_ne h5), x.1.2.2⟩) (by omega) (fun _ => hn) fun _ => hu
  have s1 : Same (fun b => (H0 b = none ∧ b ≠ a ∧ b ≠ l) ∧ H1 b ≠ none) E H1 H := r.same e fun x => hr x.1.1
  rcases h7 with ⟨hk, ds, hd'⟩ | ⟨hk, its, hd'⟩
  · exact ⟨_, Node.leaf (S' := fun b => H0 b = none ∧ b ≠ a ∧ b ≠ l ∧ b ≠ d) hk (fun b x => x.1) h2 h3 (fun x => x.2.1 rfl) (fun x => x.2.2.1 rfl) k1 kl ((hd'.mono (tups s1)).mono (tups (sm (S := fun _ => False) id))) (by omega) at_⟩
  · refine ⟨_, Node.list (S' := fun b => H0 b = none ∧ b ≠ a ∧ b ≠ l ∧ b ≠ d) hk (fun b x => x.1) h2 h3 (fun x => x.2.1 rfl) (fun x => x.2.2.1 rfl) k1 kl (hd'.mono fun t v z => ?_) (by omega) at_⟩
    have z1 : Rep 2 E H1 n (fun b => (H0 b = none ∧ b ≠ a ∧ b ≠ l) ∧ H1 b ≠ none) t v := z.mono (Nat.le_refl _) (Nat.le_refl _) Ext.refl.same fun b w => w
    exact (z1.mono (H' := H) (Nat.le_refl _) (Nat.le_refl _) s1 fun b w => w.1).mono (Nat.le_refl _) (Nat.le_refl _) (sm fun x => x.1.2.1 rfl) fun b w => ⟨w.1.1.1, w.1.1.2.1, w.1.1.2.2, fun y => w.1.2 (y ▸ hd1)⟩
noncomputable abbrev cellsM (c : Cx K) : List (Str × Addr) := [(Str.ofString "homes", c.L + 1 + 2), (Str.ofString "deep", c.L + 1 + 1), (Str.ofString "row", c.L + 1)]
theorem cm_row (c : Cx K) : List.lookup (Str.ofString "row") (cellsM c) = some (c.L + 1) := by kernel_rfl
theorem cm_deep (c : Cx K) : List.lookup (Str.ofString "deep") (cellsM c) = some (c.L + 1 + 1) := by kernel_rfl
theorem cm_homes (c : Cx K) : List.lookup (Str.ofString "homes") (cellsM c) = some (c.L + 1 + 2) := by kernel_rfl
noncomputable def dropL : Nat → List Stmt → List Stmt
  | 0, l => l
  | _ + 1, [] => []
  | n + 1, _ :: r => dropL n r
theorem strOk_n : PyData.strOk (Str.ofString "n") = true := by kernel_rfl
theorem made_tail {c : Cx K} {m : Loc} {H0 H : AH} {Q : Value → AH → Prop} {E : Addr → Prop} {R hl : Addr} {deep : Int} {td : Tok} {n : Nat} {a : Addr} (ih : 1 ≤ n → MadeAt (n - 1)) (room : Room c (n + 4)) (hn : n ≤ 160) (ms : MS c E R hl deep td H0 n H)
    (e : EnvIs c (fScope s23) (cellsM c) c.L) (hv : m.lookup (Str.ofString "v") = some (.ref a)) (va : VecAt E H0 n H a)
    (q : ∀ t H', ExtR R H0 H' → RowAt E R n H' → Rep 2 E H' (n + 1) (Fresh H0) t (.ref a) → Q (.ref a) H') : WS c (execs (dropL 2 (fBody s23)) c.env) m H (fun fl _ H' => Q (retv fl) H') := by
  have q1 := cm_row c
  have q2 := cm_deep c
  have q3 := cm_homes c
  generalize hb : dropL 2 (fBody s23) = b
  conv at hb => lhs; whnf
  subst hb
  wtm_at "e1"
  wtm_at "e1"
  wtm_at "e1"
  refine next_cell e (by kernel_rfl) (by kernel_rfl) (cm_row c) ms.c1 room ms.row (by omega) (by decide) fun i t H1 i0 i3 x1 low => ?_
  have ms1 := ms.x x1
  have va1 := va.go ms.r0 ms.row x1.ext
  repeat wtm_at "e1"
  refine we_eqI ?_
  repeat wtm_at "e1"
  refine ite_b (fun hb => ?_) fun hb => ?_
  · have hne : i ≠ 0 := by rw [beq_iff_eq] at hb; omega
    obtain ⟨n1, row1⟩ := low hne
    obtain ⟨k, rfl⟩ : ∃ k, n = k + 1 := ⟨n - 1, by omega⟩
    have ih : MadeAt k := ih n1
    have ms1' := ms1.low row1
    replace room : Room c (k + 5) := room
    wtm_at "e1"
    wtm_at "e1"
    refine we_dictMade (by kernel_rfl) (by kernel_rfl) (by kernel_rfl) (fun x => nomatch x) (Nat.le_of_ble_eq_true rfl) fun d hd => ?_
    have ms2 := ms1'.new hd (o := .dct [] 0)
    have x2 : XR E R k H1 (H1.put d (.dct [] 0)) := (xrel_row E R k).put ⟨row1, ExtR.refl, row1⟩ hd
    have hd2 : (H1.put d (.dct [] 0)) d = some (.dct [] 0) := put_self
    have g1 := ms2.c1
    have g3 := ms2.c3
    generalize H1.put d (.dct [] 0) = H2 at ms2 x2 g1 g3 hd2 ⊢
    repeat wtm_at "e1"
    refine ih (c := c) room (by omega) ms2.row ms2.homes fun t1 u1 H3 x3 r1 => ?_
    have ms3 := ms2.x x3
    have d3 := x3.ext.keep _ _ hd2 (ms1.row.ne hd)
    repeat wtm_at "e1"
    refine we_newList (Nat.le_of_ble_eq_true rfl) fun l5 hl5 => ?_
    repeat wtm_at "e1"
    refine mk_Vector2 (k := .chr) (room.mono (by omega)) fun v5 H5 e5 hv5 k5 => ?_
    have e35 : Ext H3 H5 := (Ext.refl.new hl5).trans e5
    have kl5 := e5 _ _ (put_self (H := H3) (a := l5) (o := .lst _))
    have hv3 : H3 v5 = none := (Ext.refl.new hl5).nn hv5
    have nv5 : v5 ≠ l5 := (none_of_put hv5).2
    have x5 : XR E R k H3 H5 := ⟨ms3.row, e35.toR R, ms3.row.ext e35⟩
    have ms5 := ms3.x x5
    have g1 := ms5.c1
    have g3 := ms5.c3
    repeat wtm_at "e1"
    refine ih (c := c) room (by omega) ms5.row ms5.homes fun t6 u6 H6 x6 r6 => ?_
    have ms6 := ms5.x x6
    repeat wtm_at "e1"
    have xh := xrel_row E R k
    have x16 := xh.trans x2 (xh.trans x3 (xh.trans x5 x6))
    have d6 : H6 d = some (.dct [] 0) := x6.ext.keep _ _ (e35 _ _ d3) (ms1.row.ne hd)
    refine ⟨_, .cons (.cons (.cons .nil)), d6, fun ep => ?_⟩
    have em : merged [] [(Str.ofString "unit", u1), (Str.ofString "names", Value.ref v5), (Str.ofString "more", u6)] = [(Str.ofString "unit", u1), (Str.ofString "names", Value.ref v5), (Str.ofString "more", u6)] := by kernel_rfl
    rw [em]
    have hd1 := ms1.ext.nn hd
    have nEd : ¬ E d := fun x => ms.e0 d x hd1
    have sub : ∀ {Hk : AH}, ExtR R H2 Hk → ∀ b, Fresh Hk b → (H0 b = none ∧ H1 b = none ∧ b ≠ d) := fun x b hb => by
      have h2 := x.nn hb
      have h1 := x2.ext.nn h2
      exact ⟨ms1.ext.nn h1, h1, ne_of_none h2 hd2⟩
    have s7 : ∀ {Hk : AH}, ExtR R H2 Hk → Same (Fresh Hk) E H6 (H6.put d (.dct [(Str.ofString "unit", u1), (Str.ofString "names", Value.ref v5), (Str.ofString "more", u6)] ep)) := fun x => same_put d6 (fun y => (sub x d y).2.2 rfl) nEd rfl
    have notR : ∀ {Hk : AH}, RowAt E R k Hk → ∀ b, Fresh Hk b → b ≠ R := fun x b hb => x.ne hb
    have r1' := (r1.mono (Nat.le_refl _) (Nat.le_refl _) (xh.same (xh.trans x5 x6) (notR ms2.row)) fun b x => x.1).mono (H' := H6.put d (.dct [(Str.ofString "unit", u1), (Str.ofString "names", Value.ref v5), (Str.ofString "more", u6)] ep)) (Nat.le_refl _) (Nat.le_refl _) (s7 ExtR.refl) fun b x => sub ExtR.refl b x.1
    have r5 : Rep 2 E H5 (k + 1) (Fresh H3) (leafT .chr [.str (Str.ofString "n")] noA) (.ref v5) := Rep.up (n := 1) (Node.leaf (S' := fun _ => False) rfl (fun _ x => x.elim) hv3 hl5 id id k5 kl5 (.cons (.str _ _ strOk_n) .nil) (Nat.le_of_ble_eq_true rfl) .none) (by omega)
    have r5' := (r5.mono (Nat.le_refl _) (Nat.le_refl _) (xh.same x6 (notR ms3.row)) fun b x => x.1).mono (H' := H6.put d (.dct [(Str.ofString "unit", u1), (Str.ofString "names", Value.ref v5), (Str.ofString "more", u6)] ep)) (Nat.le_refl _) (Nat.le_refl _) (s7 x3.ext) fun b x => sub x3.ext b x.1
    have r6' := r6.mono (H' := H6.put d (.dct [(Str.ofString "unit", u1), (Str.ofString "names", Value.ref v5), (Str.ofString "more", u6)] ep)) (Nat.le_refl _) (Nat.le_refl _) (s7 (x3.ext.trans x5.ext)) fun b x => sub (x3.ext.trans x5.ext) b x.1
    generalize hH7 : AH.put H6 d _ = H7 at r1' r5' r6' ⊢
    have e17 : ExtR R H1 H7 := hH7 ▸ x16.ext.put hd
    have row7 : RowAt E R k H7 := hH7 ▸ ms6.row.put (ms1.row.ne hd)
    have d7 : H7 d = some (.dct [(Str.ofString "unit", u1), (Str.ofString "names", Value.ref v5), (Str.ofString "more", u6)] ep) := hH7 ▸ put_self
    obtain ⟨f2, hf2, hz2, t, ht⟩ := va1.with hd hd1 ms.r0 row1 e17 ms.e0 d7 (Nat.le_of_ble_eq_true rfl) (.cons (.cons (.cons .nil rfl r6') (by kernel_rfl) r5') (by kernel_rfl) r1') (.inr ⟨.chr, [.str (Str.ofString "n")], noA, rfl, by rw [if_neg (by exact fun h => nomatch (beq_iff_eq.mpr h).symm.trans (by kernel_rfl : (Str.ofString "names" == Str.ofString "unit") = false)), if_pos rfl]⟩) (by rw [if_pos rfl]; exact fun h => (h ▸ r1').ne)
    wtm_at "nm"
    refine we_setA hf2 (by kernel_rfl) hz2 ?_
    have va0 : H0 a = none := by
      obtain ⟨_, _, _, _, _, h, _⟩ := va
      exact h
    repeat wtm_at "e1"
    exact q t _ ((ms1.ext.trans e17).put va0) ((row7.mono (Nat.le_succ k)).put fun x => ms.r0 (x ▸ va0)) ht
  · repeat wtm_at "e1"
    obtain ⟨t, r⟩ := va1.done
    exact q t _ ms1.ext ms1.row r
noncomputable def leafKd : Nat → Kd
  | 0 => .int | 1 => .log | 2 => .dbl | _ => .chr
theorem lt4 {k : Nat} (h : k < 4) : k = 0 ∨ k = 1 ∨ k = 2 ∨ k = 3 := by omega
theorem LitsAre.snoc {H : AH} {vs : List Value} {ds : List Dat} {v : Value} {d : Dat} (h : LitsAre H vs ds) (hv : LitIs H v d) : LitsAre H (vs ++ [v]) (ds ++ [d]) := by
  induction h with
  | nil => exact .cons hv .nil
  | cons h _ ih => exact .cons h ih
theorem LitsAre.get {H : AH} {vs : List Value} {ds : List Dat} (h : LitsAre H vs ds) {j : Nat} {v : Value} (hj : vs[j]? = some v) : ∃ d, LitIs H v d := by
  induction h generalizing j with
  | nil => simp at hj
  | cons h _ ih => cases j with
    | zero => simp only [List.getElem?_cons_zero, Option.some.injEq] at hj; exact ⟨_, hj ▸ h⟩
    | succ j => exact ih (j := j) (by simpa using hj)
theorem strOk4 : PyData.strOk (Str.ofString "") = true ∧ PyData.strOk (Str.ofString "a") = true ∧ PyData.strOk (Str.ofString "b") = true ∧ PyData.strOk (Str.ofString "NA") = true := ⟨by kernel_rfl, by kernel_rfl, by kernel_rfl, by kernel_rfl⟩
theorem names4 {a b c d : Tok} {k : Nat} (h : k < 4) : ∃ t, [Value.str (Str.ofString "integer") a, .str (Str.ofString "logical") b, .str (Str.ofString "double") c, .str (Str.ofString "character") d][k]? = some (.str (leafKd k).str t) := by
  rcases lt4 h with rfl | rfl | rfl | rfl <;> exact ⟨_, rfl⟩
theorem leafKd_leaf (k : Nat) : (leafKd k).isLeaf = true := by
  unfold leafKd
  split <;> rfl
theorem made_leaf {c : Cx K} {m : Loc} {H0 H : AH} {Q : Flow → Loc → AH → Prop} {E : Addr → Prop} {R hl : Addr} {deep : Int} {td tk : Tok} {n kk : Nat} (room : Room c (n + 4)) (hn : n ≤ 160) (ms : MS c E R hl deep td H0 n H)
    (e : EnvIs c (fScope s23) (cellsM c) c.L) (hk : m.lookup (Str.ofString "kind") = some (.int (kk : Int) tk)) (hkk : kk < 4)
    (q : ∀ m' H' a, MS c E R hl deep td H0 n H' → m'.lookup (Str.ofString "v") = some (.ref a) → VecAt E H0 n H' a → Q .next m' H') : WS c (execs (ifBody (nth 1 (fBody s23))) c.env) m H Q := by
  have q1 := cm_row c
  generalize hb : ifBody (nth 1 (fBody s23)) = b
  conv at hb => lhs; whnf
  subst hb
  repeat wtm_at "e1"
  refine we_newList (Nat.le_of_ble_eq_true rfl) fun l0 hl0 => ?_
  repeat wtm_at "e1"
  rename_i ta tb tc tt
  obtain ⟨t1, ht1⟩ := names4 (a := ta) (b := tb) (c := tc) (d := tt) hkk
  refine we_itemL put_self rfl ht1 (Nat.le_of_ble_eq_true rfl) ?_ rfl
  have ms0 := ms.new hl0 (o := .lst [.str (Str.ofString "integer") ta, .str (Str.ofString "logical") tb, .str (Str.ofString "double") tc, .str (Str.ofString "character") tt])
  generalize H.put l0 _ = Hs at ms0 ⊢
  repeat wtm_at "e1"
  refine we_newList (Nat.zero_le _) fun li hli => ?_
  have xh := xrel_row E R n
  have x1 : XR E R n Hs (Hs.put li (.lst [])) := xh.put ⟨ms0.row, ExtR.refl, ms0.row⟩ hli
  have ms1 := ms0.x x1
  have kli : (Hs.put li (.lst [])) li = some (.lst []) := put_self
  generalize Hs.put li (.lst []) = H1 at x1 ms1 kli ⊢
  repeat wtm_at "e1"
  refine ws_for e (by kernel_rfl) ?_ (fun _ => rfl)
  wtm_at "e1"
  refine gl_range e (by kernel_rfl) ?_
  wtm_at "e1"
  wtm_at "e1"
  refine next_cell e (by kernel_rfl) (by kernel_rfl) q1 ms1.c1 room ms1.row (by omega) (by decide) fun i t H2 i0 i4 x2 _ => ?_
  obtain ⟨cnt, rfl⟩ := Int.eq_ofNat_of_zero_le i0
  have nlR := ms0.row.ne hli
  have k2 := x2.ext.keep _ _ kli nlR
  have x12 := xh.trans x1 x2
  repeat wtm_at "e1"
  refine we_range fun ra hra => ?_
  refine we_iterR (n := cnt) put_self (by omega) fun it hit => ?_
  have hra0 := x12.ext.nn hra
  have hit1 := none_of_put hit
  have hit0 := x12.ext.nn hit1.1
  have nil : it ≠ li := ne_of_none hit1.1 k2
  refine ⟨it, _, _, _, _, fun p m' H' => XR E R n Hs H' ∧ H' it = some (.itr p ((cnt : Int) - p)) ∧ m'.lookup (Str.ofString "items") = some (.ref li) ∧ m'.lookup (Str.ofString "kind") = some (.int (kk : Int) tk) ∧ m'.lookup (Str.ofString "name") = some (.str (leafKd kk).str t1) ∧ ∃ vs ds, H' li = some (.lst vs) ∧ vs.length ≤ p ∧ LitsAre H' vs ds, rfl, drives_range (n := cnt), ?_, ?_, ?_, ?_⟩
  · exact fun i m' H' x => ⟨x.2.1, trivial⟩
  · exact ⟨xh.put (xh.put x12 hra0) hit0, put_self, by wtm_at "lk", by wtm_at "lk", by wtm_at "lk", [], [], put_old hit (put_old hra k2), Nat.zero_le _, .nil⟩
  · rintro p _ m1 H3 hp ⟨tp, rfl⟩ ⟨f1, f2, f3, f4, f5, vs, ds, f6, f7, f8⟩
    generalize hH4 : H3.put it (.itr ((p + 1 : Nat) : Int) ((cnt : Int) - ((p + 1 : Nat) : Int))) = H4
    have g1 : XR E R n Hs H4 := hH4 ▸ xh.put f1 hit0
    have g2 : H4 it = some (.itr ((p + 1 : Nat) : Int) ((cnt : Int) - ((p + 1 : Nat) : Int))) := hH4 ▸ put_self
    have g6 : H4 li = _ := hH4 ▸ (put_ne (Ne.symm nil)).trans f6
    have g8 : LitsAre H4 vs ds := hH4 ▸ f8.mono (tups (S := fun _ => False) (E := fun _ => False) (same_put f2 id id rfl))
    have ms4 := ms0.x g1
    wtm_at "e1"
    wtm_at "e1"
    refine next_cell e (by kernel_rfl) (by kernel_rfl) q1 ms4.c1 room ms4.row (by omega) (by decide) fun i t5 H5 j0 j5 x5 _ => ?_
    obtain ⟨j, rfl⟩ := Int.eq_ofNat_of_zero_le j0
    have y1 := xh.trans g1 x5
    have y2 := x5.ext.keep _ _ g2 (ms0.row.ne hit0)
    have y6 := x5.ext.keep _ _ g6 nlR
    have y8 := g8.mono (tups (x5.r.same x5.ext (S := fun _ => False) id))
    wtm_at "e1"
    wtm_at "e1"
    wtm_at "e1"
    refine WE.mono (Q := fun r H6 => ∃ lc cs es, r = .ref lc ∧ Ext H5 H6 ∧ H6 lc = some (.lst cs) ∧ cs.length = 4 ∧ LitsAre H6 cs es) ?_ ?_
    · repeat wtm_at "e1"
      refine we_negI fun tn => ?_
      repeat wtm_at "e1"
      refine we_newList (Nat.le_of_ble_eq_true rfl) fun la hla => ?_
      repeat wtm_at "e1"
      refine we_newList (Nat.le_of_ble_eq_true rfl) fun lb hlb => ?_
      repeat wtm_at "e1"
      refine we_newTuple (Nat.le_of_ble_eq_true rfl) fun u1 hu1 => ?_
      repeat wtm_at "e1"
      refine we_newTuple (Nat.le_of_ble_eq_true rfl) fun u2 hu2 => ?_
      repeat wtm_at "e1"
      refine we_newTuple (Nat.le_of_ble_eq_true rfl) fun u3 hu3 => ?_
      repeat wtm_at "e1"
      refine we_newTuple (Nat.le_of_ble_eq_true rfl) fun u4 hu4 => ?_
      repeat wtm_at "e1"
      refine we_newList (Nat.le_of_ble_eq_true rfl) fun lc hlc => ?_
      repeat wtm_at "e1"
      refine we_newList (Nat.le_of_ble_eq_true rfl) fun ld hld => ?_
      repeat wtm_at "e1"
      refine we_newList (Nat.le_of_ble_eq_true rfl) fun lo hlo => ?_
      repeat wtm_at "e1"
      have kk' : ∃ x, [Value.ref la, .ref lb, .ref lc, .ref ld][kk]? = some x := by rcases lt4 hkk with rfl | rfl | rfl | rfl <;> exact ⟨_, rfl⟩
      obtain ⟨x, hx⟩ := kk'
      refine we_itemL put_self rfl hx (Nat.le_of_ble_eq_true rfl) ?_ rfl
      have eL : ∀ {Ha Hb : AH}, Ext Ha Hb → ∀ a vs, Ha a = some (.tup vs) → Hb a = some (.tup vs) := fun h a vs => h _ _
      rcases lt4 hkk with rfl | rfl | rfl | rfl
      · cases hx
        exact ⟨la, _, _, rfl, by wtm_at "ex", by wtm_at "hp", rfl, .cons (.int _ _) (.cons (.int _ _) (.cons (.int _ _) (.cons (.int _ _) .nil)))⟩
      · cases hx
        exact ⟨lb, _, _, rfl, by wtm_at "ex", by wtm_at "hp", rfl, .cons (.int _ _) (.cons (.int _ _) (.cons (.int _ _) (.cons (.int _ _) .nil)))⟩
      · cases hx
        exact ⟨lc, _, _, rfl, by wtm_at "ex", by wtm_at "hp", rfl, .cons (.pair (by wtm_at "hp")) (.cons (.pair (by wtm_at "hp")) (.cons (.pair (by wtm_at "hp")) (.cons (.pair (by wtm_at "hp")) .nil)))⟩
      · cases hx
        exact ⟨ld, _, _, rfl, by wtm_at "ex", by wtm_at "hp", rfl, .cons (.str _ _ strOk4.1) (.cons (.str _ _ strOk4.2.1) (.cons (.str _ _ strOk4.2.2.1) (.cons (.str _ _ strOk4.2.2.2) .nil)))⟩
    rintro _ H6 ⟨lc, cs, es, rfl, e6, k6, z6, l6⟩
    repeat wtm_at "e1"
    refine we_mAppend (e6 _ _ y6) ?_
    wtm_at "e1"
    wtm_at "e1"
    have y8' := y8.mono fun _ _ => e6 _ _
    refine WE.mono (Q := fun r H7 => H7 = H6 ∧ ∃ d, LitIs H6 r d) ?_ ?_
    · repeat wtm_at "e1"
      refine we_eqI ?_
      repeat wtm_at "e1"
      refine ite_b (fun _ => ?_) fun hb => ?_
      · repeat wtm_at "e1"
        exact ⟨_, .none⟩
      · have hj4 : j < cs.length := by
          rw [beq_eq_false_iff_ne] at hb
          omega
        repeat wtm_at "e1"
        have hj : cs[j]? = some cs[j] := by simp [hj4]
        refine we_itemL k6 rfl hj (by omega) ?_ rfl
        exact ⟨rfl, l6.get hj⟩
    rintro r _ ⟨rfl, d, hd⟩
    rename_i H6
    have z1 := e6 _ _ y6
    repeat wtm_at "e1"
    refine we_append z1 (by omega) ?_
    repeat wtm_at "e1"
    have sl : ∀ a vs', H6 a = some (.tup vs') → (H6.put li (.lst (vs ++ [r]))) a = some (.tup vs') := tups (S := fun _ => False) (E := fun _ => False) (same_put z1 id id rfl)
    refine turn_next ⟨xh.put (xh.trans y1 ⟨x5.r', e6.toR R, x5.r'.ext e6⟩) hli, (put_ne nil).trans (e6 _ _ y2), by wtm_at "lk", by wtm_at "lk", by wtm_at "lk", vs ++ [r], ds ++ [d], put_self, by rw [List.length_append, List.length_singleton]; omega, (y8'.mono sl).snoc (hd.mono sl)⟩
  · rintro m1 H3 ⟨f1, f2, f3, f4, f5, vs, ds, f6, f7, f8⟩
    have g1 : XR E R n Hs (H3.del it) := xh.del f1 hit0
    have g6 : (H3.del it) li = _ := (del_ne (Ne.symm nil)).trans f6
    have g8 : LitsAre (H3.del it) vs ds := f8.mono (tups (S := fun _ => False) (E := fun _ => False) (same_del f2 id id rfl))
    generalize H3.del it = H4 at g1 g6 g8 ⊢
    repeat wtm_at "e1"
    refine mk_Vector2 (room.mono (by omega)) fun a H5 e5 ha k5 => ?_
    repeat wtm_at "e1"
    have ms5 := (ms0.x g1).x ⟨g1.r', e5.toR R, g1.r'.ext e5⟩
    exact q _ _ a ms5 (by wtm_at "lk") ⟨leafKd kk, t1, li, vs, k5, ms0.ext.nn (g1.ext.nn ha), ms0.ext.nn hli, ne_of_none ha g6, e5 _ _ g6, by omega, .inl ⟨leafKd_leaf kk, ds, g8.mono fun _ _ => e5 _ _⟩⟩
/-! ## a key is stored -/
theorem map_keys {fs : List (Str × Value)} {x : Str} {v : Value} : (fs.map fun kv => if kv.1 = x then (kv.1, v) else kv).map (·.1) = fs.map (·.1) := by
  rw [List.map_map]
  refine List.map_congr_left fun p _ => ?_
  show (if p.1 = x then (p.1, v) else p).1 = p.1
  split <;> rfl
theorem map_look {x y : Str} {v : Value} : ∀ {fs : List (Str × Value)}, (fs.map fun kv => if kv.1 = x then (kv.1, v) else kv).lookup y = if y = x then (fs.lookup y).map (fun _ => v) else fs.lookup y
  | [] => by
    show none = _
    split <;> rfl
  | (z, u) :: r => by
    have ih := map_look (x := x) (y := y) (v := v) (fs := r)
    rw [List.map_cons]
    have e1 : (if ((z, u) : Str × Value).1 = x then (((z, u) : Str × Value).1, v) else (z, u)) = (z, if z = x then v else u) := by
      show (if z = x then (z, v) else (z, u)) = _
      split <;> rfl
    rw [e1, List.lookup_cons, List.lookup_cons, ih]
    cases e : (y == z) with
    | false => rfl
    | true =>
      rw [beq_iff_eq] at e
      subst e
      show some _ = if y = x then some v else some u
      split <;> rfl
theorem stored_is (fs : List (Str × Value)) (x : Str) (v : Value) : stored fs x v = if (fs.lookup x).isSome = true then fs.map (fun kv => if kv.1 = x then (kv.1, v) else kv) else fs ++ [(x, v)] := by
  unfold stored
  have : (fs.any fun kv => decide (kv.1 = x)) = (fs.lookup x).isSome := by
    rw [Bool.eq_iff_iff, lookup_mem, List.any_eq_true, List.mem_map]
    exact ⟨fun h => h.imp fun p q => ⟨q.1, of_decide_eq_true q.2⟩, fun h => h.imp fun p q => ⟨q.1, decide_eq_true q.2⟩⟩
  rw [this]
theorem append_look {x y : Str} {v : Value} : ∀ {fs : List (Str × Value)}, fs.lookup x = none → (fs ++ [(x, v)]).lookup y = if y = x then some v else fs.lookup y
  | [], _ => by
    rw [List.nil_append, List.lookup_cons]
    by_cases e : y = x
    · rw [if_pos e, beq_iff_eq.mpr e]
    · rw [if_neg e, beq_eq_false_iff_ne.mpr e]
  | (z, u) :: r, h => by
    rw [List.lookup_cons] at h
    rw [List.cons_append, List.lookup_cons, List.lookup_cons]
    cases e : (y == z) with
    | true =>
      rw [beq_iff_eq] at e
      subst e
      have : y ≠ x := fun e => by subst e; rw [beq_self_eq_true] at h; cases h
      rw [if_neg this]
    | false =>
      refine append_look ?_
      cases e2 : (x == z) with
      | true => rw [e2] at h; cases h
      | false => rw [e2] at h; exact h
theorem stored_look {fs : List (Str × Value)} {x y : Str} {v : Value} : (stored fs x v).lookup y = if y = x then some v else fs.lookup y := by
  rw [stored_is]
  cases h : fs.lookup x with
  | none => exact append_look h
  | some u =>
    show List.lookup y (fs.map _) = _
    rw [map_look]
    by_cases e : y = x
    · rw [if_pos e, if_pos e, e, h]; rfl
    · rw [if_neg e, if_neg e]
theorem Dic.put {R : T → Value → Prop} {fs : List (Str × Value)} {ats : Str → T} {x : Str} {u : Value} {t : T} (h : Dic R fs ats) (hr : R t u) : Dic R (stored fs x u) (fun y => if y = x then t else ats y) := by
  refine ⟨?_, fun y w hy => ?_, fun y hy => ?_⟩
  · rw [stored_is]
    split
    · rw [map_keys]; exact h.nodup
    · next hn =>
      rw [List.map_append, List.nodup_append]
      refine ⟨h.nodup, List.nodup_cons.mpr ⟨fun h => (nomatch h), .nil⟩, fun a ha b hb => ?_⟩
      rw [List.mem_singleton.mp hb]
      rintro rfl
      exact hn (lookup_mem.mpr ha)
  · rw [stored_look] at hy
    by_cases e : y = x
    · rw [if_pos e] at hy ⊢; cases hy; exact hr
    · rw [if_neg e] at hy ⊢; exact h.some y w hy
  · rw [stored_look] at hy
    by_cases e : y = x
    · rw [if_pos e] at hy; cases hy
    · rw [if_neg e] at hy ⊢; exact h.none y hy
theorem Kids.cons {R : T → Value → Prop} {vs : List Value} {its : Nat → T} {v : Value} {t : T} (h : Kids R vs its) (hr : R t v) : Kids R (v :: vs) (fun i => match i with
    | 0 => t
    | i + 1 => its i) := by
  refine ⟨fun i w hi => ?_, fun i hi => ?_⟩
  · cases i with
    | zero => simp only [List.getElem?_cons_zero, Option.some.injEq] at hi; exact hi ▸ hr
    | succ i => exact h.1 i w (by simpa using hi)
  · cases i with
    | zero => simp at hi
    | succ i => exact h.2 i (by simpa using hi)
theorem lits_of {H : AH} : ∀ {vs : List Value}, (∀ (i : Nat) (v : Value), vs[i]? = some v → ∃ d, LitIs H v d) → ∃ ds, LitsAre H vs ds
  | [], _ => ⟨[], .nil⟩
  | v :: vs, h => by
    obtain ⟨d, hd⟩ := h 0 v rfl
    obtain ⟨ds, hds⟩ := lits_of (vs := vs) fun i w hi => h (i + 1) w (by simpa using hi)
    exact ⟨d :: ds, .cons hd hds⟩
theorem lit_elem (E : Addr → Prop) : Elem E (fun _ _ y H => ∃ d, LitIs H y d) := ⟨fun h hs _ => h.imp fun _ r => r.mono (tups hs)⟩
noncomputable def elifN : Nat → Stmt → Stmt
  | 0, s => s
  | n + 1, s => elifN n (nth 0 (ifElse s))
theorem lt3 {k : Nat} (h : k < 3) : k = 0 ∨ k = 1 ∨ k = 2 := by omega
theorem lt2 {k : Nat} (h : k < 2) : k = 0 ∨ k = 1 := by omega
theorem str_small {x : Str} (h : x = Str.ofString "f" ∨ x = Str.ofString "+" ∨ x = Str.ofString "x" ∨ x = Str.ofString "y" ∨ x = Str.ofString "P" ∨ x = Str.ofString "Q") : x.length ≤ 10 ∧ PyData.strOk x = true := by
  rcases h with rfl | rfl | rfl | rfl | rfl | rfl <;> exact ⟨Nat.le_of_ble_eq_true (by kernel_rfl), by kernel_rfl⟩
theorem pick {c : Cx K} {m : Loc} {H : AH} {Q : Value → AH → Prop} {E : Addr → Prop} {R : Addr} {n j : Nat} {sc : Scope} {cl : List (Str × Addr)} {D a la : Addr} {k : Int} {tk : Nat} {p1 p2 p3 p4 p5 : Pos} {xs : List Value} {ve se : Expr} (e : EnvIs c sc cl D) (hk1 : kindIs sc (Str.ofString "_law_next") .globalImplicit = true) (hk2 : kindIs sc (Str.ofString "row") .cell = true) (hc : List.lookup (Str.ofString "row") cl = some a) (ha : H a = some (.cell (some (.ref R))))
    (room : Room c (j + 1)) (row : RowAt E R n H) (hn : n ≤ 1000) (hla : H la = none) (hkk : k = xs.length) (h0 : 0 < k) (hz : xs.length ≤ 100) (hs : ∀ i t, subscripted se false (.ref la) (.int i t) = operate [.ref la, .int i t] (getItem (.ref la) (.int i t)))
    (q : ∀ j x H', j < xs.length → xs[j]? = some x → XR E R n H H' → (j ≠ 0 → 1 ≤ n ∧ RowAt E R (n - 1) H') → Q x H') : WE c (eval (.BinOp (.Call (.Name (Str.ofString "_law_next") p1) [.Name (Str.ofString "row") p2] [] p3) .Mod (.Constant (.int k) tk p4) p5) c.env) m (H.put la (.lst xs)) (fun i H2 => WE c (subscriptTail ve se (.ref la) i) m H2 Q) := by
  have xh := xrel_row E R n
  have x1 : XR E R n H (H.put la (.lst xs)) := xh.put ⟨row, ExtR.refl, row⟩ hla
  refine next_cell e hk1 hk2 hc (put_old hla ha) room x1.r' hn h0 fun i t H1 i0 ik x2 low => ?_
  obtain ⟨p, rfl⟩ := Int.eq_ofNat_of_zero_le i0
  have hp : p < xs.length := by omega
  have hx : xs[p]? = some xs[p] := by simp [hp]
  refine we_itemL (x2.ext.keep _ _ put_self (row.ne hla)) rfl hx (by omega) ?_ (hs _ _)
  exact q p _ _ hp hx (xh.trans x1 x2) fun h => low (by omega)
theorem made_call {c : Cx K} {m : Loc} {H0 H : AH} {Q : Flow → Loc → AH → Prop} {E : Addr → Prop} {R hl : Addr} {deep : Int} {td : Tok} {k : Nat} (ih : MadeAt k) (room : Room c (k + 5)) (hn : k + 1 ≤ 160) (ms : MS c E R hl deep td H0 k H)
    (e : EnvIs c (fScope s23) (cellsM c) c.L)
    (q : ∀ m' t v H', ExtR R H0 H' → RowAt E R k H' → Rep 2 E H' (k + 2) (Fresh H0) t v → Q (.ret v) m' H') : WS c (execs (ifBody (elifN 4 (nth 1 (fBody s23)))) c.env) m H Q := by
  have q1 := cm_row c
  have xh := xrel_row E R k
  generalize hb : ifBody (elifN 4 (nth 1 (fBody s23))) = b
  conv at hb => lhs; whnf
  subst hb
  repeat wtm_at "e1"
  refine we_newList (Nat.le_of_ble_eq_true rfl) fun la hla => ?_
  refine pick e (by kernel_rfl) (by kernel_rfl) q1 ms.c1 room ms.row (by omega) hla rfl (by decide) (Nat.le_of_ble_eq_true rfl) (fun _ _ => rfl) fun j x H1 hj hx x1 _ => ?_
  obtain ⟨s, ts, rfl, hss⟩ : ∃ s t, x = .str s t ∧ (s.length ≤ 10 ∧ PyData.strOk s = true) := by
    rcases lt2 hj with rfl | rfl
    · cases hx; exact ⟨_, _, rfl, str_small (.inl rfl)⟩
    · cases hx; exact ⟨_, _, rfl, str_small (.inr (.inl rfl))⟩
  have ms1 := ms.x x1
  repeat wtm_at "e1"
  refine mk_Symbol (room.mono (by omega)) fun a1 t1 H2 e2 ha1 k1 => ?_
  have x2 : XR E R k H1 H2 := ⟨ms1.row, e2.toR R, ms1.row.ext e2⟩
  have ms2 := ms1.x x2
  repeat wtm_at "e1"
  refine we_newList (Nat.le_of_ble_eq_true rfl) fun lb hlb => ?_
  have x3 : XR E R k H2 (H2.put lb (.lst [.ref a1])) := xh.put ⟨ms2.row, ExtR.refl, ms2.row⟩ hlb
  have ms3 := ms2.x x3
  have k3 : (H2.put lb (.lst [.ref a1])) lb = some (.lst [.ref a1]) := put_self
  have k31 := put_old (o := .lst [.ref a1]) hlb k1
  generalize H2.put lb (.lst [.ref a1]) = H3 at x3 ms3 k3 k31 ⊢
  refine made_kids ih room (by omega) ms3 e (cl := [(Str.ofString "row", c.L + 1), (Str.ofString "homes", c.L + 1 + 2), (Str.ofString "deep", c.L + 1 + 1)]) (by kernel_rfl) (by kernel_rfl) rfl (by kernel_rfl) (by kernel_rfl) (by kernel_rfl) q1 (by kernel_rfl) (by kernel_rfl) (by kernel_rfl) (by kernel_rfl) (by kernel_rfl) (by kernel_rfl) (by kernel_rfl) (by kernel_rfl) fun l vs its H4 x4 hl4 k4 z4 kids => ?_
  have ms4 := ms3.x x4
  have nR : ∀ {b : Addr}, H0 b = none → b ≠ R := fun hb y => ms.r0 (y ▸ hb)
  have hlb0 := ms2.ext.nn hlb
  have ha10 := ms1.ext.nn ha1
  have hl40 := ms3.ext.nn hl4
  have kb := x4.ext.keep _ _ k3 (nR hlb0)
  have ka := x4.ext.keep _ _ k31 (nR ha10)
  -- the children as they stand before the call's own lists
  have kids1 : Kids (Rep 2 E H4 (k + 1) (fun b => H0 b = none)) (.ref a1 :: vs) _ := (kids.mono fun t v r => r.mono (Nat.le_refl _) (Nat.le_refl _) Ext.refl.same fun b x => ms3.ext.nn x.1.1).cons (t := .node .sym [.str s] noI noA noA) (show Node _ _ _ _ _ _ _ from .sym ha10 ka fun _ => hss)
  refine we_addL kb k4 (by simp; omega) fun li hli => ?_
  have hli0 := ms4.ext.nn hli
  have x5 : XR E R k H4 (H4.put li (.lst ([.ref a1] ++ vs))) := xh.put ⟨ms4.row, ExtR.refl, ms4.row⟩ hli
  have ms5 := ms4.x x5
  have k5 : (H4.put li (.lst ([.ref a1] ++ vs))) li = some (.lst (.ref a1 :: vs)) := put_self
  generalize H4.put li (.lst ([.ref a1] ++ vs)) = H5 at x5 ms5 k5 ⊢
  repeat wtm_at "e1"
  refine we_newList (Nat.le_of_ble_eq_true rfl) fun lc hlc => ?_
  have hlc0 := ms5.ext.nn hlc
  have nlc : lc ≠ li := ne_of_none hlc k5
  have x6 : XR E R k H5 (H5.put lc (.lst [.none])) := xh.put ⟨ms5.row, ExtR.refl, ms5.row⟩ hlc
  have ms6 := ms5.x x6
  have k6 : (H5.put lc (.lst [.none])) lc = some (.lst [.none]) := put_self
  have k6i := put_old (o := .lst [.none]) hlc k5
  generalize H5.put lc (.lst [.none]) = H6 at x6 ms6 k6 k6i ⊢
  refine we_listComp (cl := [(Str.ofString "row", c.L + 1)]) ⟨e, by kernel_rfl, by kernel_rfl, rfl, fun _ => rfl⟩ (by kernel_rfl) ?_
  repeat wtm_at "e1"
  refine we_lenL k6i (by simp; omega) fun t7 => ?_
  repeat wtm_at "e1"
  refine we_subI fun t8 => ?_
  have el : (((Value.ref a1 :: vs).length : Nat) : Int) - 1 = ((vs.length : Nat) : Int) := by simp
  rw [el]
  repeat wtm_at "e1"
  refine we_range fun ra hra => ?_
  refine we_iterR (n := vs.length) put_self (by omega) fun it hit => ?_
  have hit6 := (none_of_put hit).1
  refine comp_X xh (lit_elem E) (Hs := H6) (n := vs.length) (st := fun i => .itr i ((vs.length : Int) - i)) (xh.put (xh.put ⟨ms6.row, ExtR.refl, ms6.row⟩ hra) hit6) hit6 put_self (by omega) (fun _ => rfl) (fun D => drives_range) (fun D => self_range) (fun _ _ => trivial) (fun b hb => ms6.row.ne hb) ms6.homes.live ?_ ?_
  · rintro p v D H7 fs hp ⟨tv, rfl⟩ x7 hD Q' q'
    have ms7 := ms6.x x7
    repeat wtm_at "e1"
    refine we_newList (Nat.le_of_ble_eq_true rfl) fun lm hlm => ?_
    refine pick (c := c.comp _ _ D) (comp_env e) (by kernel_rfl) (by kernel_rfl) (by kernel_rfl) ms7.c1 room ms7.row (by omega) hlm rfl (by decide) (Nat.le_of_ble_eq_true rfl) (fun _ _ => rfl) fun j x H8 hj hx x8 _ => ?_
    refine q' _ _ x8 ?_
    rcases lt3 hj with rfl | rfl | rfl
    · cases hx; exact ⟨_, .none⟩
    · cases hx; exact ⟨_, .str _ _ strOk4.2.1⟩
    · cases hx; exact ⟨_, .str _ _ strOk4.2.2.1⟩
  · intro lt ts H8 x8 hlt klt zt hts
    obtain ⟨ds, hds⟩ := lits_of hts
    have ms8 := ms6.x x8
    have hlt0 := ms6.ext.nn hlt
    refine we_addL (x8.ext.keep _ _ k6 (nR hlc0)) klt (by simp; omega) fun lg hlg => ?_
    have hlg0 := ms8.ext.nn hlg
    have x9 : XR E R k H8 (H8.put lg (.lst ([.none] ++ ts))) := xh.put ⟨ms8.row, ExtR.refl, ms8.row⟩ hlg
    have ms9 := ms8.x x9
    have k9 : (H8.put lg (.lst ([.none] ++ ts))) lg = some (.lst (.none :: ts)) := put_self
    have lits9 : LitsAre (H8.put lg (.lst ([.none] ++ ts))) (.none :: ts) (.none :: ds) := .cons .none (hds.mono fun _ _ => Ext.refl.new hlg _ _)
    have k8i := x8.ext.keep _ _ k6i (nR hli0)
    have nlg : li ≠ lg := (ne_of_none hlg k8i).symm
    have k9i := put_old (o := .lst ([.none] ++ ts)) hlg k8i
    generalize H8.put lg (.lst ([.none] ++ ts)) = H9 at x9 ms9 k9 k9i lits9 ⊢
    repeat wtm_at "e1"
    refine mk_Call2 (room.mono (by omega)) fun a ta H10 e10 ha ka => ?_
    have ha0 := ms9.ext.nn ha
    have x10 : XR E R k H9 H10 := ⟨ms9.row, e10.toR R, ms9.row.ext e10⟩
    have ms10 := ms9.x x10
    have x410 : XR E R k H4 H10 := xh.trans x5 (xh.trans x6 (xh.trans x8 (xh.trans x9 x10)))
    have n4 : ∀ {b}, H5 b = none → H4 b = none := fun hb => x5.ext.nn hb
    have h4a : H4 a = none := n4 (x6.ext.nn (x8.ext.nn (x9.ext.nn ha)))
    have h4g : H4 lg = none := n4 (x6.ext.nn (x8.ext.nn hlg))
    repeat wtm_at "e1"
    refine q _ _ _ _ ms10.ext ms10.row (show Node _ _ _ _ _ _ _ from .call (S' := fun b => H0 b = none ∧ b ≠ a ∧ b ≠ li ∧ b ≠ lg) (fun b x => x.1) ha0 hli0 hlg0 nlg (fun x => x.2.1 rfl) (fun x => x.2.2.1 rfl) (fun x => x.2.2.2 rfl) ka (e10 _ _ k9i) (e10 _ _ k9) (kids1.mono fun t v r => ?_) (lits9.mono fun _ _ => e10 _ _) (by simp; omega) (by simp; omega) (fun _ => ⟨fun h => (nomatch h), rfl, ds, rfl⟩) .none)
    exact r.mono (Nat.le_refl _) (Nat.le_refl _) (xh.same x410 fun b hb => nR hb) fun b hb => ⟨hb.1, fun y => hb.2 (y ▸ h4a), fun y => hb.2 (y ▸ hli), fun y => hb.2 (y ▸ h4g)⟩
theorem formals_of {H : AH} {R : T → Value → Prop} : ∀ {vs : List Value}, (∀ (i : Nat) (v : Value), vs[i]? = some v → ∃ g x t u T', v = .ref g ∧ H g = some (.tup [.str x t, u]) ∧ R T' u) →
    ∃ xs : List Str, ∃ f : Nat → T, ∀ t0, Formals H R vs xs (fun i => match i with
      | 0 => t0
      | i + 1 => f i)
  | [], _ => ⟨[], fun _ => .no, fun _ => ⟨rfl, fun i p h => by simp at h, fun _ _ => rfl⟩⟩
  | v :: vs, h => by
    obtain ⟨g, x, t, u, T', h1, h2, h3⟩ := h 0 v rfl
    obtain ⟨xs, f, hf⟩ := formals_of (vs := vs) fun i w hi => h (i + 1) w (by simpa using hi)
    refine ⟨x :: xs, fun i => match i with
      | 0 => T'
      | i + 1 => f i, fun t0 => ⟨by simp [(hf t0).1], fun i p hp => ?_, fun i hi => ?_⟩⟩
    · cases i with
      | zero =>
        simp only [List.getElem?_cons_zero, Option.some.injEq] at hp
        subst hp
        exact ⟨g, x, t, u, h1, h2, rfl, h3⟩
      | succ i => exact (hf t0).2.1 i p (by simpa using hp)
    · cases i with
      | zero => simp at hi
      | succ i => exact (hf t0).2.2 i (by simpa using hi)
theorem form_elem (w : Nat) (E : Addr → Prop) (n : Nat) : Elem E (fun _ S y H => ∃ g x t u T', y = .ref g ∧ H g = some (.tup [.str x t, u]) ∧ Rep w E H n S T' u) := ⟨fun ⟨g, x, t, u, T', h1, h2, h3⟩ hs hl => ⟨g, x, t, u, T', h1, tups hs _ _ h2, h3.mono (Nat.le_refl _) (Nat.le_refl _) hs hl⟩⟩
theorem block_kind {c : Cx K} {sc : Scope} {cl : List (Str × Addr)} {D : Addr} (e : EnvIs c sc cl D) (h : sc.kind = .function) : c.env.blockKind = sc.kind := by
  unfold Env.blockKind
  rw [e.scope, h]; rfl
theorem made_clo {c : Cx K} {m : Loc} {H0 H : AH} {Q : Flow → Loc → AH → Prop} {E : Addr → Prop} {R hl : Addr} {deep : Int} {td : Tok} {k : Nat} (ih : MadeAt k) (room : Room c (k + 5)) (hn : k + 1 ≤ 160) (ms : MS c E R hl deep td H0 k H)
    (e : EnvIs c (fScope s23) (cellsM c) c.L)
    (q : ∀ m' t v H', ExtR R H0 H' → RowAt E R k H' → Rep 2 E H' (k + 2) (Fresh H0) t v → Q (.ret v) m' H') : WS c (execs (ifBody (elifN 5 (nth 1 (fBody s23)))) c.env) m H Q := by
  have q1 := cm_row c
  have q2 := cm_deep c
  have q3 := cm_homes c
  have xh := xrel_row E R k
  have nR : ∀ {b : Addr}, H0 b = none → b ≠ R := fun hb y => ms.r0 (y ▸ hb)
  generalize hb : ifBody (elifN 5 (nth 1 (fBody s23))) = b
  conv at hb => lhs; whnf
  subst hb
  wtm_at "e1"
  refine ws_assignComp (cl := [(Str.ofString "row", c.L + 1), (Str.ofString "homes", c.L + 1 + 2)]) ⟨e, by kernel_rfl, by kernel_rfl, rfl, fun _ => rfl⟩ (by kernel_rfl) (by kernel_rfl) (swaps_name e (by kernel_rfl) (block_kind e rfl)) ?_
  wtm_at "e1"
  refine gl_range e (by kernel_rfl) ?_
  wtm_at "e1"
  wtm_at "e1"
  refine next_cell e (by kernel_rfl) (by kernel_rfl) q1 ms.c1 room ms.row (by omega) (by decide) fun i t H1 i0 i3 x1 _ => ?_
  obtain ⟨cnt, rfl⟩ := Int.eq_ofNat_of_zero_le i0
  have ms1 := ms.x x1
  repeat wtm_at "e1"
  refine we_range fun ra hra => ?_
  refine we_iterR (n := cnt) put_self (by omega) fun it hit => ?_
  have hit1 := (none_of_put hit).1
  refine comp_X xh (form_elem 2 E (k + 1)) (Hs := H1) (n := cnt) (st := fun i => .itr i ((cnt : Int) - i)) (xh.put (xh.put ⟨ms1.row, ExtR.refl, ms1.row⟩ hra) hit1) hit1 put_self (by omega) (fun _ => rfl) (fun D => drives_range) (fun D => self_range) (fun _ _ => trivial) (fun b hb => ms1.row.ne hb) ms1.homes.live ?_ ?_
  · rintro p v D H2 fs hp ⟨tv, rfl⟩ x2 hD Q' q'
    have ms2 := ms1.x x2
    have g1 := ms2.c1
    have g3 := ms2.c3
    repeat wtm_at "e1"
    refine we_newList (Nat.le_of_ble_eq_true rfl) fun lx hlx => ?_
    rename_i tx ty
    have x2a : XR E R k H2 (H2.put lx (.lst [.str (Str.ofString "x") tx, .str (Str.ofString "y") ty])) := xh.put ⟨ms2.row, ExtR.refl, ms2.row⟩ hlx
    repeat wtm_at "e1"
    have hx : ∃ s t, [Value.str (Str.ofString "x") tx, Value.str (Str.ofString "y") ty][p]? = some (.str s t) := by
      rcases lt2 (k := p) (by omega) with rfl | rfl <;> exact ⟨_, _, rfl⟩
    obtain ⟨s, ts, hx⟩ := hx
    refine we_itemL put_self rfl hx (Nat.le_of_ble_eq_true rfl) ?_ rfl
    have ms2a := ms2.x x2a
    have g1 := ms2a.c1
    have g3 := ms2a.c3
    generalize H2.put lx _ = H2a at x2a ms2a g1 g3 ⊢
    wtm_at "e1"
    refine WE.mono (Q := fun r H' => XR E R k H2a H' ∧ ∃ T', Rep 2 E H' (k + 1) (Fresh H2a) T' r) ?_ ?_
    · repeat wtm_at "e1"
      refine next_c (c := c.comp _ _ D) room ms2a.row (by omega) fun i t4 H4 y4 r4 _ => ?_
      have x4 : XR E R k H2a H4 := ⟨ms2a.row, y4, r4⟩
      repeat wtm_at "e1"
      refine we_modI (by decide) fun t4' => ?_
      have ms4 := ms2a.x x4
      have g1 := ms4.c1
      have g3 := ms4.c3
      repeat wtm_at "e1"
      refine we_eqI ?_
      repeat wtm_at "e1"
      refine ite_b (fun _ => ?_) fun _ => ?_
      · repeat wtm_at "e1"
        refine mk_Missing (c := c.comp _ _ D) (room.mono (by omega)) fun a t5 H5 e5 ha5 k5 => ?_
        exact ⟨xh.trans x4 ⟨ms4.row, e5.toR R, ms4.row.ext e5⟩, _, show Node _ _ _ _ _ _ _ from .miss (x4.ext.nn ha5) k5⟩
      · repeat wtm_at "e1"
        refine ih (c := c.comp _ _ D) room (by omega) ms4.row ms4.homes fun T5 v5 H5 x5 r5 => ?_
        exact ⟨xh.trans x4 x5, T5, r5.mono (Nat.le_refl _) (Nat.le_refl _) Ext.refl.same fun b y => x4.ext.nn y.1⟩
    rintro r H5 ⟨x5, T', hr⟩
    repeat wtm_at "e1"
    refine we_newTuple (Nat.le_of_ble_eq_true rfl) fun g hg => ?_
    have x6 : XR E R k H5 (H5.put g (.tup [.str s ts, r])) := xh.put ⟨x5.r', ExtR.refl, x5.r'⟩ hg
    exact q' _ _ (xh.trans x2a (xh.trans x5 x6)) ⟨g, s, ts, r, T', rfl, put_self, hr.mono (Nat.le_refl _) (Nat.le_refl _) (Ext.refl.new hg).same fun b y => x2a.ext.nn y.1⟩
  · intro l vs H3 x3 hl3 kl z3 hts
    have ms3 := ms1.x x3
    have g1 := ms3.c1
    have g2 := ms3.c2
    have g3 := ms3.c3
    have hl0 := ms1.ext.nn hl3
    repeat wtm_at "e1"
    refine we_subI fun t4 => ?_
    repeat wtm_at "e1"
    refine ih (c := c) room (by omega) ms3.row ms3.homes fun t5 bv H5 x5 r5 => ?_
    have ms5 := ms3.x x5
    have g1 := ms5.c1
    have g3 := ms5.c3
    have kl5 := x5.ext.keep _ _ kl (nR hl0)
    repeat wtm_at "e1"
    refine next_c room ms5.row (by omega) fun i t6 H6 y6 r6 _ => ?_
    have x6 : XR E R k H5 H6 := ⟨ms5.row, y6, r6⟩
    repeat wtm_at "e1"
    refine we_modI (by decide) fun t6' => ?_
    have j2 := fmod_hi (i := i) (k := 2) (by decide)
    obtain ⟨j, hjj⟩ := Int.eq_ofNat_of_zero_le (fmod_lo (i := i) (k := 2) (by decide))
    rw [hjj] at j2 ⊢
    have ms6 := ms5.x x6
    obtain ⟨ea, eb, h1, ⟨h2, u1, u1', w1, f1, l1, h3⟩, h4, u2, u2', w2, f2, l2, h5⟩ := ms6.homes.at_
    have kl6 := x6.ext.keep _ _ kl5 (nR hl0)
    have hen : ∃ en, [Value.ref ea, .ref eb][j]? = some (.ref en) ∧ E en ∧ ∃ t t' i f l, H6 en = some (.inst 175 (fEnv t t' i f l)) := by
      rcases lt2 (k := j) (by omega) with rfl | rfl
      · exact ⟨_, rfl, h2, _, _, _, _, _, h3⟩
      · exact ⟨_, rfl, h4, _, _, _, _, _, h5⟩
    obtain ⟨en, hj, hE, ta, tb, w, f, lk, hen⟩ := hen
    refine we_itemL h1 rfl hj (Nat.le_of_ble_eq_true rfl) ?_ rfl
    repeat wtm_at "e1"
    refine mk_Closure3 (room.mono (by omega)) fun a ta H7 e7 ha k7 => ?_
    have x7 : XR E R k H6 H7 := ⟨ms6.row, e7.toR R, ms6.row.ext e7⟩
    have ms7 := ms6.x x7
    have ha0 := ms6.ext.nn ha
    have h5a := x6.ext.nn ha
    have h3a := x5.ext.nn h5a
    have x57 := xh.trans x6 x7
    have x37 := xh.trans x5 x57
    have kids : ∀ (i : Nat) (v : Value), vs[i]? = some v → ∃ g x t u T', v = .ref g ∧ H7 g = some (.tup [.str x t, u]) ∧ Rep 2 E H7 (k + 1) (fun b => H0 b = none ∧ b ≠ a ∧ b ≠ l) T' u := fun i v hv => (form_elem 2 E (k + 1)).mono (i := i) (S := fun b => H1 b = none ∧ b ≠ l) (hts i v hv) (xh.same x37 fun b hb => nR (ms1.ext.nn hb.1)) fun b hb => ⟨ms1.ext.nn hb.1.1, fun y => hb.2 (y ▸ h3a), hb.1.2⟩
    obtain ⟨xs, f, hf⟩ := formals_of kids
    repeat wtm_at "e1"
    exact q _ _ _ _ ms7.ext ms7.row (show Node _ _ _ _ _ _ _ from .clo (S' := fun b => H0 b = none ∧ b ≠ a ∧ b ≠ l) (fun b x => x.1) ha0 hl0 (fun x => x.2.1 rfl) (fun x => x.2.2 rfl) k7 (e7 _ _ kl6) (hf t5) (r5.mono (Nat.le_refl _) (Nat.le_refl _) (xh.same x57 fun b hb => ms3.row.ne hb) fun b hb => ⟨ms3.ext.nn hb.1, fun y => hb.2 (y ▸ h5a), ne_of_none hb.1 kl⟩) (.inr hE) (fun _ => hE) (e7 _ _ hen) (by omega))
theorem home_of {E : Addr → Prop} {R hl : Addr} {H : AH} (h : HomesAt E R hl H) : ∃ e1 e2, H hl = some (.lst [.ref e1, .ref e2]) ∧ ∀ j : Nat, j < 2 → ∃ en, [Value.ref e1, .ref e2][j]? = some (.ref en) ∧ E en ∧ ∃ t t' i f l, H en = some (.inst 175 (fEnv t t' i f l)) := by
  obtain ⟨ea, eb, h1, ⟨h2, u1, u1', w1, f1, l1, h3⟩, h4, u2, u2', w2, f2, l2, h5⟩ := h.at_
  refine ⟨ea, eb, h1, fun j hj => ?_⟩
  rcases lt2 hj with rfl | rfl
  · exact ⟨_, rfl, h2, _, _, _, _, _, h3⟩
  · exact ⟨_, rfl, h4, _, _, _, _, _, h5⟩
theorem fmod_nat {i k : Int} (h : 0 < k) : ∃ j : Nat, i.fmod k = (j : Int) ∧ (j : Int) < k := by
  obtain ⟨j, hj⟩ := Int.eq_ofNat_of_zero_le (fmod_lo (i := i) h)
  exact ⟨j, hj, hj ▸ fmod_hi h⟩
theorem take_get {xs : List Value} {k i : Nat} {v : Value} (h : (xs.take k)[i]? = some v) : xs[i]? = some v := by
  rw [List.getElem?_take] at h
  split at h
  · exact h
  · cases h
theorem made_s4 {c : Cx K} {m : Loc} {H0 H : AH} {Q : Flow → Loc → AH → Prop} {E : Addr → Prop} {R hl : Addr} {deep : Int} {td : Tok} {k : Nat} (ih : MadeAt k) (room : Room c (k + 5)) (hn : k + 1 ≤ 160) (ms : MS c E R hl deep td H0 k H)
    (e : EnvIs c (fScope s23) (cellsM c) c.L)
    (q : ∀ m' t v H', ExtR R H0 H' → RowAt E R k H' → Rep 2 E H' (k + 2) (Fresh H0) t v → Q (.ret v) m' H') : WS c (execs (ifElse (elifN 5 (nth 1 (fBody s23)))) c.env) m H Q := by
  have q1 := cm_row c
  have q2 := cm_deep c
  have q3 := cm_homes c
  have xh := xrel_row E R k
  have nR : ∀ {b : Addr}, H0 b = none → b ≠ R := fun hb y => ms.r0 (y ▸ hb)
  generalize hb : ifElse (elifN 5 (nth 1 (fBody s23))) = b
  conv at hb => lhs; whnf
  subst hb
  have g1 := ms.c1
  repeat wtm_at "e1"
  refine next_c room ms.row (by omega) fun i t H1 y1 r1 _ => ?_
  have x1 : XR E R k H H1 := ⟨ms.row, y1, r1⟩
  have ms1 := ms.x x1
  have g1 := ms1.c1
  have g3 := ms1.c3
  repeat wtm_at "e1"
  refine we_modI (by decide) fun t1 => ?_
  repeat wtm_at "e1"
  refine we_eqI ?_
  repeat wtm_at "e1"
  refine ite_b (fun _ => ?_) fun _ => ?_
  · repeat wtm_at "e1"
    refine next_c room ms1.row (by omega) fun i t H2 y2 r2 _ => ?_
    have ms2 := ms1.go y2 r2
    repeat wtm_at "e1"
    refine we_modI (by decide) fun t2 => ?_
    obtain ⟨j, hj, j2⟩ := fmod_nat (i := i) (k := 2) (by decide)
    rw [hj]
    obtain ⟨ea, eb, h1, hh⟩ := home_of ms2.homes
    obtain ⟨en, h2, hE, _, _, _, _, _, hen⟩ := hh j (by omega)
    refine we_itemL h1 rfl h2 (Nat.le_of_ble_eq_true rfl) ?_ rfl
    repeat wtm_at "e1"
    exact q _ _ _ _ ms2.ext ms2.row (show Node _ _ _ _ _ _ _ from .env (.inr hE) hen)
  repeat wtm_at "e1"
  refine we_newList (Nat.le_of_ble_eq_true rfl) fun la hla => ?_
  refine pick e (by kernel_rfl) (by kernel_rfl) q1 ms1.c1 room ms1.row (by omega) hla rfl (by decide) (Nat.le_of_ble_eq_true rfl) (fun _ _ => rfl) fun j x H2 hj hx x2 _ => ?_
  obtain ⟨s, ts, rfl, hss⟩ : ∃ s t, x = .str s t ∧ (s.length ≤ 10 ∧ PyData.strOk s = true) := by
    rcases lt2 hj with rfl | rfl
    · cases hx; exact ⟨_, _, rfl, str_small (.inr (.inr (.inr (.inr (.inl rfl)))))⟩
    · cases hx; exact ⟨_, _, rfl, str_small (.inr (.inr (.inr (.inr (.inr rfl)))))⟩
  have ms2 := ms1.x x2
  repeat wtm_at "e1"
  refine mk_S4 (room.mono (by omega)) fun a d ta ep H3 e3 ha hd nad ka kd => ?_
  have x3 : XR E R k H2 H3 := ⟨ms2.row, e3.toR R, ms2.row.ext e3⟩
  have ms3 := ms2.x x3
  have ha0 := ms2.ext.nn ha
  have hd0 := ms2.ext.nn hd
  have g1 := ms3.c1
  repeat wtm_at "e1"
  refine ws_for e (by kernel_rfl) ?_ (fun _ => rfl)
  refine we_sliceTo ?_
  repeat wtm_at "e1"
  refine we_newList (Nat.le_of_ble_eq_true rfl) fun lb hlb => ?_
  rename_i tx ty
  have x4 : XR E R k H3 (H3.put lb (.lst [.str (Str.ofString "a") tx, .str (Str.ofString "b") ty])) := xh.put ⟨ms3.row, ExtR.refl, ms3.row⟩ hlb
  have ms4 := ms3.x x4
  have kb4 : (H3.put lb (.lst [.str (Str.ofString "a") tx, .str (Str.ofString "b") ty])) lb = some (.lst [.str (Str.ofString "a") tx, .str (Str.ofString "b") ty]) := put_self
  generalize H3.put lb _ = H4 at x4 ms4 kb4 ⊢
  refine next_cell e (by kernel_rfl) (by kernel_rfl) q1 ms4.c1 room ms4.row (by omega) (by decide) fun i t5 H5 i0 i3 x5 _ => ?_
  obtain ⟨cnt, rfl⟩ := Int.eq_ofNat_of_zero_le i0
  have hlb0 := ms3.ext.nn hlb
  refine ⟨lb, _, _, _, rfl, rfl, i0, Nat.le_of_ble_eq_true rfl, .inl (x5.ext.keep _ _ kb4 (nR hlb0)), fun l2 hl2 => ?_⟩
  have ms5 := ms4.x x5
  have x25 : XR E R k H2 H5 := xh.trans x3 (xh.trans x4 x5)
  have ka5 := x5.ext.keep _ _ (x4.ext.keep _ _ ka (nR ha0)) (nR ha0)
  have kd5 := x5.ext.keep _ _ (x4.ext.keep _ _ kd (nR hd0)) (nR hd0)
  have nal2 : l2 ≠ a := ne_of_none hl2 ka5
  have ndl2 : l2 ≠ d := ne_of_none hl2 kd5
  have hl22 := x25.ext.nn hl2
  refine we_iterL put_self fun it hit => ?_
  have hit5 := none_of_put hit
  have hit2 := x25.ext.nn hit5.1
  have hit0 := ms2.ext.nn hit2
  have nia : it ≠ a := ne_of_none hit5.1 ka5
  have nid : it ≠ d := ne_of_none hit5.1 kd5
  have nE : ∀ {b : Addr}, H0 b = none → ¬ E b := fun hb y => ms.e0 _ y hb
  refine ⟨it, _, _, _, _, fun i m' H' => XR E R k H2 H' ∧ H' it = some (.itl l2 i) ∧ H' l2 = some (.lst (List.take (cnt : Int).toNat [.str (Str.ofString "a") tx, .str (Str.ofString "b") ty])) ∧ H' a = some (.inst 196 (fS4 ta ts s d)) ∧ m'.lookup (Str.ofString "v") = some (.ref a) ∧ ∃ fs ep sls, H' d = some (.dct fs ep) ∧ Dic (Rep 2 E H' (k + 1) (fun b => H0 b = none ∧ b ≠ a ∧ b ≠ d ∧ b ≠ it)) fs sls ∧ fs.length ≤ i ∧ ((i = 0 ∧ fs = []) ∨ sls (Str.ofString "a") ≠ .no), rfl, drives_list (l := l2) (vs := List.take (cnt : Int).toNat [.str (Str.ofString "a") tx, .str (Str.ofString "b") ty]), ?_, ?_, ?_, ?_⟩
  · exact fun i m' H' x => ⟨x.2.1, x.2.2.1⟩
  · exact ⟨xh.put (xh.put x25 hl22) hit2, put_self, put_old hit put_self, put_old hit (put_old hl2 ka5), by wtm_at "lk", [], ep, noA, put_old hit (put_old hl2 kd5), Dic.nil, Nat.zero_le _, .inl ⟨rfl, rfl⟩⟩
  · rintro i v m1 H6 hi hv ⟨f1, f2, f3, f4, f5, fs, ep6, sls, f6, f7, f8, f9⟩
    have hv' := take_get hv
    obtain ⟨x, t7, rfl, hx0⟩ : ∃ x t, v = .str x t ∧ (i = 0 → x = Str.ofString "a") := by
      match i, hv' with
      | 0, h => cases h; exact ⟨_, _, rfl, fun _ => rfl⟩
      | 1, h => cases h; exact ⟨_, _, rfl, fun h => (nomatch h)⟩
    have hi2 : i < 2 := by
      have := (List.getElem?_eq_some_iff.mp hv').1
      exact this
    generalize hH7 : H6.put it (.itl l2 (i + 1)) = H7
    have y1 : XR E R k H2 H7 := hH7 ▸ xh.put f1 hit2
    have y2 : H7 it = some (.itl l2 (i + 1)) := hH7 ▸ put_self
    have nl2i : l2 ≠ it := fun y => by rw [y, f2] at f3; cases f3
    have y3 := (congrFun hH7 l2).symm.trans ((put_ne nl2i).trans f3)
    have y4 := (congrFun hH7 a).symm.trans ((put_ne nia.symm).trans f4)
    have y6 := (congrFun hH7 d).symm.trans ((put_ne nid.symm).trans f6)
    have y7 : Dic (Rep 2 E H7 (k + 1) (fun b => H0 b = none ∧ b ≠ a ∧ b ≠ d ∧ b ≠ it)) fs sls := f7.mono fun t v r => r.mono (Nat.le_refl _) (Nat.le_refl _) (hH7 ▸ same_put f2 (fun y => y.2.2.2 rfl) (nE hit0) rfl) fun b y => y.1
    have ms7 := ms2.x y1
    have g1 := ms7.c1
    have g2 := ms7.c2
    have g3 := ms7.c3
    wtm_at "e1"
    repeat wtm_at "e1"
    refine we_subI fun t8 => ?_
    repeat wtm_at "e1"
    refine ih (c := c) room (by omega) ms7.row ms7.homes fun t9 v9 H9 x9 r9 => ?_
    have z2 := x9.ext.keep _ _ y2 (nR hit0)
    have z3 := x9.ext.keep _ _ y3 (nR (ms2.ext.nn hl22))
    have z4 := x9.ext.keep _ _ y4 (nR ha0)
    have z6 := x9.ext.keep _ _ y6 (nR hd0)
    repeat wtm_at "e1"
    refine we_setD z6 y7.nodup (by omega) fun ep' => ?_
    have sd : ∀ {S : Addr → Prop}, ¬ S d → Same S E H9 (H9.put d (.dct (stored fs x v9) ep')) := fun hS => same_put z6 hS (nE hd0) rfl
    have tn : t9 ≠ .no := fun y => (y ▸ r9).ne
    repeat wtm_at "e1"
    refine turn_next ⟨xh.put (xh.trans y1 x9) hd, (put_ne nid).trans z2, (put_ne ndl2).trans z3, (put_ne nad).trans z4, by wtm_at "lk", stored fs x v9, ep', _, put_self, Dic.put (y7.mono fun t v r => ?_) (t := t9) ?_, Nat.le_trans (stored_length_le ..) (by omega), .inr ?_⟩
    · exact (r.mono (Nat.le_refl _) (Nat.le_refl _) (xh.same x9 fun b y => nR y.1) fun b y => y.1).mono (Nat.le_refl _) (Nat.le_refl _) (sd fun y => y.2.2.1 rfl) fun b y => y.1
    · exact r9.mono (Nat.le_refl _) (Nat.le_refl _) (sd fun y => absurd y (some_ne y6)) fun b y => ⟨ms7.ext.nn y.1, ne_of_none y.1 y4, ne_of_none y.1 y6, ne_of_none y.1 y2⟩
    · rcases f9 with ⟨rfl, _⟩ | f9
      · rw [if_pos (hx0 rfl).symm]; exact tn
      · split
        · exact tn
        · exact f9
  · rintro m1 H6 ⟨f1, f2, f3, f4, f5, fs, ep6, sls, f6, f7, f8, f9⟩
    have y1 : XR E R k H2 (H6.del it) := xh.del f1 hit2
    have ms7 := ms2.x y1
    have sd := same_del f2 (S := fun b => H0 b = none ∧ b ≠ a ∧ b ≠ d ∧ b ≠ it) (fun y => y.2.2.2 rfl) (nE hit0) rfl
    have hc : (List.take (cnt : Int).toNat [Value.str (Str.ofString "a") tx, .str (Str.ofString "b") ty]).length ≤ 2 := by rw [List.length_take]; exact Nat.min_le_right _ _
    repeat wtm_at "e1"
    refine q _ _ _ _ ms7.ext ms7.row (show Node _ _ _ _ _ _ _ from .s4 (S' := fun b => H0 b = none ∧ b ≠ a ∧ b ≠ d ∧ b ≠ it) (fun b x => x.1) ha0 hd0 (fun x => x.2.1 rfl) (fun x => x.2.2.1 rfl) ((del_ne nia.symm).trans f4) ((del_ne nid.symm).trans f6) (f7.mono fun t v r => r.mono (Nat.le_refl _) (Nat.le_refl _) sd fun b y => y.1) (by omega) fun _ => ⟨hss.1, f9.imp_left fun y => y.2⟩)
theorem made_step {n : Nat} (ih : 1 ≤ n → MadeAt (n - 1)) : MadeAt n := by
  intro c m H E R hl deep td Q room hn row homes q
  refine ws_funC (binds := [(Str.ofString "row", .ref R), (Str.ofString "deep", .int deep td), (Str.ofString "homes", .ref hl)]) (ml := []) (cells := fun n => [(Str.ofString "homes", n + 2), (Str.ofString "deep", n + 1), (Str.ofString "row", n)]) (fn_made _) room.lt (fun _ => rfl) (by decide +kernel) (fun n => ⟨by simp, fun p hp => by simp at hp; rcases hp with rfl | rfl | rfl <;> simp⟩) (by kernel_rfl) (by kernel_rfl) rfl (fun s hs _ _ _ _ _ _ _ _ => BindsTo.of_eq rfl) fun c' sub fr => ?_
  have room' := room.sub sub
  have e : EnvIs c' (fScope s23) (cellsM c') c'.L := sub.env
  have f1 : H (c'.L + 1) = none := fr (Str.ofString "row", c'.L + 1) (.tail _ (.tail _ (.head _)))
  have f2 : H (c'.L + 1 + 1) = none := fr (Str.ofString "deep", c'.L + 1 + 1) (.tail _ (.head _))
  have f3 : H (c'.L + 1 + 2) = none := fr (Str.ofString "homes", c'.L + 1 + 2) (.head _)
  have xh := xrel_row E R n
  generalize hHc : putCells _ _ H = Hc
  have x0 : XR E R n H Hc := hHc ▸ xh.put (xh.put (xh.put ⟨row, ExtR.refl, row⟩ f1) f2) f3
  have k1 : Hc (c'.L + 1) = some (.cell (some (.ref R))) := hHc ▸ (put_ne (by simp)).trans ((put_ne (by simp)).trans put_self)
  have k2 : Hc (c'.L + 1 + 1) = some (.cell (some (.int deep td))) := hHc ▸ (put_ne (by simp)).trans put_self
  have k3 : Hc (c'.L + 1 + 2) = some (.cell (some (.ref hl))) := hHc ▸ put_self
  have ms : MS c' E R hl deep td H n Hc := ⟨x0.ext, x0.r', k1, k2, k3, f1, f2, f3, row.live, homes.live, homes.go x0.ext row.nE⟩
  clear hHc
  have q1 := cm_row c'
  have q2 := cm_deep c'
  generalize hb : fBody s23 = b
  conv at hb => lhs; whnf
  subst hb
  repeat wtm_at "e1"
  refine next_c room' ms.row (by omega) fun i t H1 y1 r1 low => ?_
  have ms1 := ms.go y1 r1
  have g2 := ms1.c2
  refine WE.mono (Q := fun r H' => H' = H1 ∧ ∃ kk : Int, ∃ t, r = .int kk t ∧ 0 < kk ∧ kk ≤ 11) ?_ ?_
  · repeat wtm_at "e1"
    refine we_gtI ?_
    repeat wtm_at "e1"
    refine ite_b (fun _ => ?_) fun _ => ?_
    · repeat wtm_at "e1"
      exact ⟨_, _, rfl, by decide, by decide⟩
    · repeat wtm_at "e1"
      exact ⟨_, _, rfl, by decide, by decide⟩
  rintro _ _ ⟨rfl, kk, t2, rfl, hk0, hk11⟩
  rename_i H1
  refine we_modI (by omega) fun tk => ?_
  obtain ⟨kd, hkd, hkl⟩ := fmod_nat (i := i) hk0
  have low' : kd ≠ 0 → 1 ≤ n ∧ RowAt E R (n - 1) H1 := fun h => low (fmod_ne (by rw [hkd]; omega))
  rw [hkd]
  clear low hkd
  -- from n = k + 1 on
  have fin : ∀ {k : Nat}, n = k + 1 → ∀ (m' : Loc) (t : T) (v : Value) (H' : AH), ExtR R H H' → RowAt E R k H' → Rep 2 E H' (k + 2) (Fresh H) t v → Q v H' := fun h m' t v H' x r p => by subst h; exact q t v H' ⟨row, x, r.mono (Nat.le_succ _)⟩ p
  have fin0 : ∀ (t : T) (v : Value) (H' : AH), ExtR R H H' → RowAt E R n H' → Rep 2 E H' (n + 1) (Fresh H) t v → Q v H' := fun t v H' x r p => q t v H' ⟨row, x, r⟩ p
  repeat wtm_at "e1"
  refine we_ltI ?_
  repeat wtm_at "e1"
  refine ite_b (fun hb => ?_) fun hb => ?_
  · refine made_leaf room' hn ms1 e lk_here (kk := kd) (by have := of_decide_eq_true hb; omega) fun m' H2 a ms2 hv va => ?_
    refine after_next (made_tail ih room' hn ms2 e hv va fun t H' x r p => fin0 _ _ _ x r p)
  have c4 : 4 ≤ kd := by have := of_decide_eq_false hb; omega
  repeat wtm_at "e1"
  refine we_eqI ?_
  repeat wtm_at "e1"
  refine ite_b (fun hb => ?_) fun hb => ?_
  · repeat wtm_at "e1"
    refine mk_Null (room'.mono (by omega)) fun a ta H2 e2 ha ka => ?_
    have ms2 := ms1.go (e2.toR R) (ms1.row.ext e2)
    repeat wtm_at "e1"
    exact fin0 _ _ _ ms2.ext ms2.row (show Node _ _ _ _ _ _ _ from .null (ms1.ext.nn ha) ka)
  have c5 : kd ≠ 4 := fun h => by subst h; cases hb
  obtain ⟨n1, rlow⟩ := low' (by omega)
  obtain ⟨k, rfl⟩ : ∃ k, n = k + 1 := ⟨n - 1, by omega⟩
  have ih : MadeAt k := ih n1
  have ms1' : MS c' E R hl deep td H k H1 := ms1.low rlow
  replace room' : Room c' (k + 5) := room'
  have g1 := ms1'.c1
  repeat wtm_at "e1"
  refine we_eqI ?_
  repeat wtm_at "e1"
  refine ite_b (fun hb => ?_) fun hb => ?_
  · repeat wtm_at "e1"
    refine we_newList (Nat.le_of_ble_eq_true rfl) fun la hla => ?_
    refine pick e (by kernel_rfl) (by kernel_rfl) q1 g1 room' ms1'.row (by omega) hla rfl (by decide) (Nat.le_of_ble_eq_true rfl) (fun _ _ => rfl) fun j x H2 hj hx x2 _ => ?_
    obtain ⟨s, ts, rfl, hss⟩ : ∃ s t, x = .str s t ∧ (s.length ≤ 10 ∧ PyData.strOk s = true) := by
      rcases lt3 hj with rfl | rfl | rfl
      · cases hx; exact ⟨_, _, rfl, str_small (.inr (.inr (.inl rfl)))⟩
      · cases hx; exact ⟨_, _, rfl, str_small (.inr (.inr (.inr (.inl rfl))))⟩
      · cases hx; exact ⟨_, _, rfl, str_small (.inr (.inl rfl))⟩
    have ms2 := ms1'.x x2
    repeat wtm_at "e1"
    refine mk_Symbol (room'.mono (by omega)) fun a ta H3 e3 ha ka => ?_
    have ms3 := ms2.go (e3.toR R) (ms2.row.ext e3)
    repeat wtm_at "e1"
    exact fin rfl [] _ _ _ ms3.ext ms3.row (show Node _ _ _ _ _ _ _ from .sym (ms2.ext.nn ha) ka fun _ => hss)
  have c6 : kd ≠ 5 := fun h => by subst h; cases hb
  repeat wtm_at "e1"
  refine we_ltI ?_
  repeat wtm_at "e1"
  refine ite_b (fun hb => ?_) fun hb => ?_
  · have c8 : kd < 8 := by have := of_decide_eq_true hb; omega
    repeat wtm_at "e1"
    refine we_newList (Nat.le_of_ble_eq_true rfl) fun la hla => ?_
    rename_i tx ty
    have x2 : XR E R k H1 (H1.put la (.lst [.str (Str.ofString "list") tx, .str (Str.ofString "expression") ty])) := (xrel_row E R k).put ⟨ms1'.row, ExtR.refl, ms1'.row⟩ hla
    repeat wtm_at "e1"
    refine we_subI fun t6 => ?_
    obtain ⟨kx, ts, hx, hlk⟩ : ∃ (kx : Kd) (t : Tok), [Value.str (Str.ofString "list") tx, .str (Str.ofString "expression") ty][kd - 6]? = some (.str kx.str t) ∧ kx.isList = true := by
      rcases lt2 (k := kd - 6) (by omega) with h | h
      · rw [h]; exact ⟨.lst, _, rfl, rfl⟩
      · rw [h]; exact ⟨.exp, _, rfl, rfl⟩
    refine we_itemL put_self (j := kd - 6) (by omega) hx (Nat.le_of_ble_eq_true rfl) ?_ rfl
    have ms2 := ms1'.x x2
    generalize H1.put la _ = H2 at x2 ms2 ⊢
    wtm_at "e1"
    refine made_kids ih room' (by omega) ms2 e (cl := [(Str.ofString "row", c'.L + 1), (Str.ofString "homes", c'.L + 1 + 2), (Str.ofString "deep", c'.L + 1 + 1)]) (by kernel_rfl) (by kernel_rfl) rfl (by kernel_rfl) (by kernel_rfl) (by kernel_rfl) q1 (by kernel_rfl) (by kernel_rfl) (by kernel_rfl) (by kernel_rfl) (by kernel_rfl) (by kernel_rfl) (by kernel_rfl) (by kernel_rfl) fun l vs its H4 x4 hl4 k4 z4 kids => ?_
    have ms4 := ms2.x x4
    repeat wtm_at "e1"
    refine mk_Vector2 (room'.mono (by omega)) fun a H5 e5 ha ka => ?_
    have x5 : XR E R k H4 H5 := ⟨ms4.row, e5.toR R, ms4.row.ext e5⟩
    have ms5 := ms4.x x5
    have ha0 := ms4.ext.nn ha
    have hl0 := ms2.ext.nn hl4
    repeat (first | with_reducible refine after_next ?_ | with_reducible refine ws_nil ?_)
    have va : VecAt E H (k + 1) H5 a := ⟨kx, ts, l, vs, ka, ha0, hl0, ne_of_none ha k4, e5 _ _ k4, by omega, .inr ⟨hlk, its, kids.mono fun t v r => r.mono (Nat.le_refl _) (Nat.le_refl _) ((xrel_row E R k).same x5 fun b hb => ms2.row.ne hb.1) fun b hb => ⟨ms2.ext.nn hb.1.1, fun y => hb.2 (y ▸ ha), hb.1.2⟩⟩⟩
    exact made_tail (n := k + 1) (fun _ => ih) room' hn (ms5.low (ms5.row.mono (Nat.le_succ k))) e lk_here va fun t H' x r p => fin0 _ _ _ x r p
  have c8 : 8 ≤ kd := by have := of_decide_eq_false hb; omega
  repeat wtm_at "e1"
  refine we_eqI ?_
  repeat wtm_at "e1"
  refine ite_b (fun hb => ?_) fun hb => ?_
  · exact made_call ih room' hn ms1' e fun m' t v H' x r p => fin rfl m' t v H' x r p
  repeat wtm_at "e1"
  refine we_eqI ?_
  repeat wtm_at "e1"
  refine ite_b (fun hb => ?_) fun hb => ?_
  · exact made_clo ih room' hn ms1' e fun m' t v H' x r p => fin rfl m' t v H' x r p
  exact made_s4 ih room' hn ms1' e fun m' t v H' x r p => fin rfl m' t v H' x r p
theorem made_all : ∀ n, MadeAt n
  | 0 => made_step fun h => absurd h (Nat.not_succ_le_zero 0)
  | n + 1 => made_step fun _ => made_all n
/-- what _law_again does -/
noncomputable def AgainAt (n : Nat) : Prop := ∀ {c : Cx K} {m : Loc} {H : AH} {E S : Addr → Prop} {t : T} {v : Value} {Q : Value → AH → Prop}, Room c (n + 4) → Rep 2 E H n S t v → (∀ b, E b → H b ≠ none) →
  (∀ v' H', Ext H H' → Rep 2 E H' n (Fresh H) t v' → Q v' H') → WE c (call (.ref 287) [v]) m H Q
/-- attributes that are made anew -/
noncomputable def AtN (E : Addr → Prop) (H0 H : AH) (n : Nat) (av : Value) (ats : Str → T) : Prop := (av = .none ∧ ats = noA) ∨ ∃ d fs ep, av = .ref d ∧ H0 d = none ∧ H d = some (.dct fs ep) ∧ Dic (Rep 2 E H n (fun b => H0 b = none ∧ b ≠ d)) fs ats ∧ fs.length ≤ 58 ∧ NamesOk (ats (Str.ofString "names")) ∧ ats (Str.ofString "unit") ≠ .no
theorem AtN.ext {E : Addr → Prop} {H0 H H' : AH} {n : Nat} {av : Value} {ats : Str → T} (h : AtN E H0 H n av ats) (e : Ext H H') : AtN E H0 H' n av ats := by
  rcases h with h | ⟨d, fs, ep, h1, h2, h3, h4, h5⟩
  · exact .inl h
  · exact .inr ⟨d, fs, ep, h1, h2, e _ _ h3, h4.mono fun t v r => r.ext e, h5⟩
theorem strs_get {vs : List Value} {ys : List Str} (h : StrsAre vs ys) : ∀ {i : Nat} {v : Value}, vs[i]? = some v → ∃ y t, ys[i]? = some y ∧ v = .str y t := by
  induction h with
  | nil => intro i v hv; simp at hv
  | cons y t h ih =>
    intro i v hv
    cases i with
    | zero => simp only [List.getElem?_cons_zero, Option.some.injEq] at hv; exact ⟨y, t, rfl, hv.symm⟩
    | succ i => exact ih (by simpa using hv)
theorem strs_len {vs : List Value} {ys : List Str} (h : StrsAre vs ys) : vs.length = ys.length := by
  induction h with
  | nil => rfl
  | cons _ _ _ ih => simp [ih]
theorem strs_rev {vs : List Value} {ys : List Str} (h : StrsAre vs ys) : ∀ {i : Nat} {v : Value}, vs.reverse[i]? = some v → ∃ y t, ys.reverse[i]? = some y ∧ v = .str y t := by
  intro i v hv
  have hi : i < vs.length := by
    have := (List.getElem?_eq_some_iff.mp hv).1
    rwa [List.length_reverse] at this
  rw [List.getElem?_reverse hi] at hv
  obtain ⟨y, t, h1, h2⟩ := strs_get h hv
  refine ⟨y, t, ?_, h2⟩
  rw [List.getElem?_reverse (by rw [← strs_len h]; exact hi), ← strs_len h]
  exact h1
/-- a dict that is filled key by key with what another holds -/
structure Fill (ks : List Str) (i : Nat) (sls ats : Str → T) : Prop where
  old : ∀ j y, j < i → ks[j]? = some y → sls y = ats y
  new : ∀ y, (∀ j, j < i → ks[j]? ≠ some y) → sls y = .no
theorem Fill.start {ks : List Str} {ats : Str → T} : Fill ks 0 noA ats := ⟨fun j y h => absurd h (Nat.not_lt_zero _), fun _ _ => rfl⟩
theorem Fill.step {ks : List Str} {i : Nat} {sls ats : Str → T} {x : Str} (h : Fill ks i sls ats) (hx : ks[i]? = some x) : Fill ks (i + 1) (fun y => if y = x then ats x else sls y) ats := by
  refine ⟨fun j y hj hy => ?_, fun y hy => ?_⟩
  · by_cases e : y = x
    · show (if y = x then ats x else sls y) = _
      rw [if_pos e, e]
    · show (if y = x then ats x else sls y) = _
      rw [if_neg e]
      rcases Nat.lt_or_ge j i with hlt | hge
      · exact h.old j y hlt hy
      · obtain rfl : j = i := by omega
        rw [hx] at hy; cases hy; exact (e rfl).elim
  · have e : y ≠ x := fun e => hy i (by omega) (e ▸ hx)
    show (if y = x then ats x else sls y) = _
    rw [if_neg e]
    exact h.new y fun j hj => hy j (by omega)
theorem Fill.done {R : T → Value → Prop} {ks : List Str} {i : Nat} {sls ats : Str → T} {fs : List (Str × Value)} (h : Fill ks i sls ats) (hi : ks.length ≤ i) (d : Dic R fs ats) (hk : ∀ y, y ∈ ks ↔ y ∈ fs.map (·.1)) : sls = ats := by
  funext y
  by_cases hy : y ∈ ks
  · obtain ⟨j, hj⟩ := List.mem_iff_getElem?.mp hy
    exact h.old j y (Nat.lt_of_lt_of_le (List.getElem?_eq_some_iff.mp hj).1 hi) hj
  · rw [h.new y fun j _ hj => hy (List.mem_of_getElem? hj), d.none y]
    cases e : fs.lookup y with
    | none => rfl
    | some u => exact (hy ((hk y).mpr (lookup_mem.mp (by rw [e]; rfl)))).elim
theorem again_attrs {c : Cx K} {m : Loc} {H0 H : AH} {Q : Flow → Loc → AH → Prop} {E S S' : Addr → Prop} {n : Nat} {cl : List (Str × Addr)} {v : Value} {k : Kd} {a : Addr} {fs : List (Str × Value)} {tk : Tok} {av : Value} {ats : Str → T}
    (ih : AgainAt n) (room : Room c (n + 4)) (e : EnvIs c (fScope s24) cl c.L) (e0 : Ext H0 H) (hE : ∀ b, E b → H0 b ≠ none) (kv : Head H v k a fs tk av) (hav : Attrs 2 H (Rep 2 E H n) S S' av ats)
    (hv : m.lookup (Str.ofString "v") = some v) (hm : m.lookup (Str.ofString "attrs") = some .none)
    (q : ∀ m' av' H', Ext H H' → m'.lookup (Str.ofString "v") = some v → m'.lookup (Str.ofString "attrs") = some av' → AtN E H0 H' n av' ats → Q .next m' H') : WS c (exec (nth 1 (fBody s24)) c.env) m H Q := by
  generalize hb : nth 1 (fBody s24) = b
  conv at hb => lhs; whnf
  subst hb
  repeat wtm_at "e1"
  refine we_attrs kv hav.handed ?_
  repeat wtm_at "e1"
  refine we_isNotNone ?_
  repeat wtm_at "e1"
  cases hav with
  | none =>
    refine ite_b (fun hb => (nomatch hb)) fun _ => ?_
    repeat wtm_at "e1"
    exact q _ _ _ Ext.refl hv hm (.inl ⟨rfl, rfl⟩)
  | some h1 h2 h3 h4 h5 h6 h7 =>
    rename_i dA fA epA
    refine ite_b (fun _ => ?_) fun hb => (nomatch hb)
    repeat wtm_at "e1"
    refine we_dictNil fun ep d hd => ?_
    have x1 : Ext H (H.put d (.dct [] ep)) := Ext.refl.put hd
    have kd : (H.put d (.dct [] ep)) d = some (.dct [] ep) := put_self
    generalize H.put d (.dct [] ep) = H1 at x1 kd ⊢
    repeat wtm_at "e1"
    refine ws_for e (by kernel_rfl) ?_ (fun _ => rfl)
    refine we_sliceRev ?_
    repeat wtm_at "e1"
    refine we_attrs (kv.ext x1) rfl ?_
    repeat wtm_at "e1"
    refine we_listD (x1 _ _ h1) h4.nodup (by omega) fun ks hks lk hlk => ?_
    have x2 : Ext H1 (H1.put lk (.lst ks)) := Ext.refl.new hlk
    have kk : (H1.put lk (.lst ks)) lk = some (.lst ks) := put_self
    have kd2 := put_old (o := .lst ks) hlk kd
    generalize H1.put lk (.lst ks) = H2 at x2 kk kd2 ⊢
    repeat wtm_at "e1"
    refine we_negI fun t3 => ?_
    refine ⟨lk, ks, t3, rfl, rfl, by rw [strs_len hks, List.length_map]; omega, .inl kk, fun l2 hl2 => ?_⟩
    have n2 : d ≠ l2 := (ne_of_none hl2 kd2).symm
    refine we_iterL put_self fun it hit => ?_
    have x12 := x1.trans x2
    have hl2H := x12.nn hl2
    have hit2 := none_of_put hit
    have hitH := x12.nn hit2.1
    have nd : d ≠ it := (ne_of_none hit2.1 kd2).symm
    have d0 := e0.nn hd
    have it0 := e0.nn hitH
    have nE : ∀ {b : Addr}, H0 b = none → ¬ E b := fun hb y => hE _ y hb
    refine ⟨it, _, _, _, _, fun i m' H' => Ext H H' ∧ H' it = some (.itl l2 i) ∧ H' l2 = some (.lst ks.reverse) ∧ m'.lookup (Str.ofString "v") = some v ∧ m'.lookup (Str.ofString "attrs") = some (.ref d) ∧ ∃ fs ep sls, H' d = some (.dct fs ep) ∧ Dic (Rep 2 E H' n (fun b => H0 b = none ∧ b ≠ d ∧ b ≠ it)) fs sls ∧ Fill (fA.map (·.1)).reverse i sls ats, rfl, drives_list (l := l2) (vs := ks.reverse), ?_, ?_, ?_, ?_⟩
    · exact fun i m' H' x => ⟨x.2.1, x.2.2.1⟩
    · exact ⟨(x12.put hl2H).put hitH, put_self, put_old hit put_self, by wtm_at "lk", by wtm_at "lk", [], ep, noA, put_old hit (put_old hl2 kd2), Dic.nil, Fill.start⟩
    · rintro i w m1 H3 hi hw ⟨f1, f2, f3, f4, f5, fs3, ep3, sls, f6, f7, f8⟩
      obtain ⟨x, tx, hx, rfl⟩ := strs_rev hks hw
      have hxm : x ∈ fA.map (·.1) := List.mem_reverse.mp (List.mem_of_getElem? hx)
      obtain ⟨u, hu⟩ := Option.isSome_iff_exists.mp (lookup_mem.mpr hxm)
      have nl2 : l2 ≠ it := fun y => by rw [y, f2] at f3; cases f3
      generalize hH4 : H3.put it (.itl l2 (i + 1)) = H4
      have y1 : Ext H H4 := hH4 ▸ f1.put hitH
      have y2 : H4 it = some (.itl l2 (i + 1)) := hH4 ▸ put_self
      have y3 := (congrFun hH4 l2).symm.trans ((put_ne nl2).trans f3)
      have y6 := (congrFun hH4 d).symm.trans ((put_ne nd).trans f6)
      have y7 : Dic (Rep 2 E H4 n (fun b => H0 b = none ∧ b ≠ d ∧ b ≠ it)) fs3 sls := f7.mono fun t v r => r.mono (Nat.le_refl _) (Nat.le_refl _) (hH4 ▸ same_put f2 (fun y => y.2.2 rfl) (nE it0) rfl) fun b y => y.1
      repeat wtm_at "e1"
      refine we_attrs (kv.ext y1) rfl ?_
      repeat wtm_at "e1"
      refine we_itemD (y1 _ _ h1) h4.nodup hu ?_ rfl
      repeat wtm_at "e1"
      refine ih room ((h4.some _ _ hu).ext y1) (fun b hb => y1.live (e0.live (hE b hb))) fun w5 H5 e5 r5 => ?_
      repeat wtm_at "e1"
      have z6 := e5 _ _ y6
      have hn3 : fs3.length ≤ 16000000 := by
        have := sub_len (l' := fA.map (·.1)) f7.nodup fun y hy => by
          obtain ⟨u', hu'⟩ := Option.isSome_iff_exists.mp (lookup_mem.mpr hy)
          have hne := (f7.some y u' hu')
          refine Classical.byContradiction fun hno => ?_
          rw [f8.new y fun j _ hj => hno (List.mem_reverse.mp (List.mem_of_getElem? hj))] at hne
          exact hne.ne
        rw [List.length_map, List.length_map] at this
        omega
      refine we_setD z6 y7.nodup hn3 fun ep' => ?_
      have sd : ∀ {S : Addr → Prop}, ¬ S d → Same S E H5 (H5.put d (.dct (stored fs3 x w5) ep')) := fun hS => same_put z6 hS (nE d0) rfl
      repeat wtm_at "e1"
      refine turn_next ⟨(y1.trans e5).put hd, (put_ne nd.symm).trans (e5 _ _ y2), (put_ne n2.symm).trans (e5 _ _ y3), by wtm_at "lk", by wtm_at "lk", stored fs3 x w5, ep', _, put_self, Dic.put (y7.mono fun t v r => ?_) (t := ats x) ?_, f8.step hx⟩
      · exact (r.ext e5).mono (Nat.le_refl _) (Nat.le_refl _) (sd fun y => y.2.1 rfl) fun b y => y.1
      · exact r5.mono (Nat.le_refl _) (Nat.le_refl _) (sd fun y => absurd y (some_ne y6)) fun b y => ⟨(e0.trans y1).nn y.1, ne_of_none y.1 y6, ne_of_none y.1 y2⟩
    · rintro m1 H3 ⟨f1, f2, f3, f4, f5, fs3, ep3, sls, f6, f7, f8⟩
      have hs : sls = ats := f8.done (by rw [List.length_reverse, List.length_map, List.length_reverse, strs_len hks, List.length_map]; exact Nat.le_refl _) h4 fun y => List.mem_reverse
      subst hs
      have f7' := f7.mono (R' := Rep 2 E (H3.del it) n (fun b => H0 b = none ∧ b ≠ d)) fun t v r => r.mono (Nat.le_refl _) (Nat.le_refl _) (same_del f2 (fun y => y.2.2 rfl) (nE it0) rfl) fun b y => ⟨y.1.1, y.1.2.1⟩
      have hl := dic_len (fun v => Rep.ne) (fun v => Rep.ne) f7' h4
      repeat wtm_at "e1"
      exact q _ _ _ (f1.del hitH) f4 f5 (.inr ⟨d, fs3, ep3, rfl, d0, (del_ne nd).trans f6, f7', by omega, h6 (by omega), h7 (Nat.le_refl _)⟩)
section
variable {w : Nat} {E S : Addr → Prop} {H : AH} {R : (Addr → Prop) → T → Value → Prop}
theorem Node.vec {k : Kd} {ds : List Dat} {its : Nat → T} {sls ats : Str → T} {v : Value} (h : Node w E H R S (.node k ds its sls ats) v) (hk : k.isVec = true) : ∃ a l t av vs, ∃ S' : Addr → Prop, v = .ref a ∧ S a ∧ S l ∧ ¬ S' a ∧ ¬ S' l ∧ (∀ b, S' b → S b) ∧ H a = some (.inst 88 (fVec k t l av)) ∧ H l = some (.lst vs) ∧ vs.length + w ≤ 900 ∧ Attrs w H R S S' av ats ∧ sls = noA ∧
    ((k.isLeaf = true ∧ LitsAre H vs ds ∧ its = noI) ∨ (k.isList = true ∧ ds = [] ∧ Kids (R S') vs its)) := by
  cases h with
  | leaf hk hs sa sl na nl h1 h2 h3 h4 h5 => exact ⟨_, _, _, _, _, _, rfl, sa, sl, na, nl, hs, h1, h2, h4, h5, rfl, .inl ⟨hk, h3, rfl⟩⟩
  | list hk hs sa sl na nl h1 h2 h3 h4 h5 => exact ⟨_, _, _, _, _, _, rfl, sa, sl, na, nl, hs, h1, h2, h4, h5, rfl, .inr ⟨hk, rfl, h3⟩⟩
  | _ => exact nomatch hk
end
theorem AtN.attrs {E : Addr → Prop} {H0 H2 H' : AH} {n : Nat} {av : Value} {ats : Str → T} (h : AtN E H0 H2 n av ats) (X : Addr → Prop) (e : Ext H2 H') (hX : ∀ b, X b → H2 b = none) : Attrs 2 H' (Rep 2 E H' n) (Fresh H0) (fun b => H0 b = none ∧ ¬ X b ∧ av ≠ .ref b) av ats := by
  rcases h with ⟨rfl, rfl⟩ | ⟨d, fs, ep, rfl, h2, h3, h4, h5, h6, h7⟩
  · exact .none
  · refine .some (e _ _ h3) h2 (fun x => x.2.2 rfl) (h4.mono fun t v r => r.mono (Nat.le_refl _) (Nat.le_refl _) e.same fun b y => ⟨y.1.1, fun z => y.2 (hX b z), fun z => y.1.2 (by cases z; rfl)⟩) (by omega) (fun _ => h6) fun _ => h7
theorem kid_elem (E : Addr → Prop) (n : Nat) (p : Bool) (vs : List Value) (its : Nat → T) : Elem E (fun i S y H => (p = true → Rep 2 E H n S (its i) y) ∧ (p = false → vs[i]? = some y)) := ⟨fun h hs hl => ⟨fun hp => (h.1 hp).mono (Nat.le_refl _) (Nat.le_refl _) hs hl, h.2⟩⟩
theorem same_list {vs vs' : List Value} (hl : vs'.length = vs.length) (h : ∀ (i : Nat) (v : Value), vs'[i]? = some v → vs[i]? = some v) : vs' = vs := by
  refine List.ext_getElem? fun i => ?_
  by_cases hi : i < vs'.length
  · rw [h i vs'[i] (by simp [hi])]; simp [hi]
  · rw [List.getElem?_eq_none (by omega), List.getElem?_eq_none (by omega)]
theorem again_s4 {c : Cx K} {m : Loc} {H0 H : AH} {Q : Flow → Loc → AH → Prop} {E S' : Addr → Prop} {n : Nat} {cl : List (Str × Addr)} {a dA : Addr} {t t' : Tok} {x : Str} {fA : List (Str × Value)} {epA : Nat} {ats : Str → T}
    (ih : AgainAt n) (room : Room c (n + 4)) (e : EnvIs c (fScope s24) cl c.L) (e0 : Ext H0 H) (hE : ∀ b, E b → H0 b ≠ none) (h1 : H a = some (.inst 196 (fS4 t t' x dA))) (h2 : H dA = some (.dct fA epA)) (h4 : Dic (Rep 2 E H n S') fA ats) (hz : fA.length ≤ 58) (hw : x.length ≤ 10 ∧ (fA = [] ∨ ats (Str.ofString "a") ≠ .no))
    (hv : m.lookup (Str.ofString "v") = some (.ref a))
    (q : ∀ m' v' H', Ext H H' → Rep 2 E H' (n + 1) (Fresh H0) (.node .s4 [.str x] noI ats noA) v' → Q (.ret v') m' H') : WS c (execs (ifBody (nth 7 (fBody s24))) c.env) m H Q := by
  generalize hb : ifBody (nth 7 (fBody s24)) = b
  conv at hb => lhs; whnf
  subst hb
  repeat wtm_at "e1"
  refine mk_S4 (room.mono (by omega)) fun a2 d t2 ep H1 x1 ha2 hd nad ka kd => ?_
  repeat wtm_at "e1"
  refine ws_for e (by kernel_rfl) ?_ (fun _ => rfl)
  refine we_sliceRev ?_
  repeat wtm_at "e1"
  refine we_sortedD (x1 _ _ h2) h4.nodup (by omega) fun ks ss hks hperm lk hlk => ?_
  have x2 : Ext H1 (H1.put lk (.lst ks)) := Ext.refl.new hlk
  have kk : (H1.put lk (.lst ks)) lk = some (.lst ks) := put_self
  have kd2 := put_old (o := .lst ks) hlk kd
  have ka2 := put_old (o := .lst ks) hlk ka
  generalize H1.put lk (.lst ks) = H2 at x2 kk kd2 ka2 ⊢
  repeat wtm_at "e1"
  refine we_negI fun t3 => ?_
  have hlen : ks.length = fA.length := by rw [strs_len hks, hperm.length_eq, List.length_map]
  refine ⟨lk, ks, t3, rfl, rfl, by omega, .inl kk, fun l2 hl2 => ?_⟩
  have n2 : d ≠ l2 := (ne_of_none hl2 kd2).symm
  have n2a : a2 ≠ l2 := (ne_of_none hl2 ka2).symm
  refine we_iterL put_self fun it hit => ?_
  have x12 := x1.trans x2
  have hl2H := x12.nn hl2
  have hit2 := none_of_put hit
  have hitH := x12.nn hit2.1
  have nd : d ≠ it := (ne_of_none hit2.1 kd2).symm
  have na : a2 ≠ it := (ne_of_none hit2.1 ka2).symm
  have d0 := e0.nn hd
  have a0 := e0.nn ha2
  have it0 := e0.nn hitH
  have nE : ∀ {b : Addr}, H0 b = none → ¬ E b := fun hb y => hE _ y hb
  refine ⟨it, _, _, _, _, fun i m' H' => Ext H H' ∧ H' it = some (.itl l2 i) ∧ H' l2 = some (.lst ks.reverse) ∧ H' a2 = some (.inst 196 (fS4 t2 t' x d)) ∧ m'.lookup (Str.ofString "v") = some (.ref a) ∧ m'.lookup (Str.ofString "made") = some (.ref a2) ∧ ∃ fs ep sls, H' d = some (.dct fs ep) ∧ Dic (Rep 2 E H' n (fun b => H0 b = none ∧ b ≠ a2 ∧ b ≠ d ∧ b ≠ it)) fs sls ∧ Fill ss.reverse i sls ats, rfl, drives_list (l := l2) (vs := ks.reverse), ?_, ?_, ?_, ?_⟩
  · exact fun i m' H' x => ⟨x.2.1, x.2.2.1⟩
  · exact ⟨(x12.put hl2H).put hitH, put_self, put_old hit put_self, put_old hit (put_old hl2 ka2), by wtm_at "lk", by wtm_at "lk", [], ep, noA, put_old hit (put_old hl2 kd2), Dic.nil, Fill.start⟩
  · rintro i w m1 H3 hi hw ⟨f1, f2, f3, fa, f4, f5, fs3, ep3, sls, f6, f7, f8⟩
    obtain ⟨y, ty, hy, rfl⟩ := strs_rev hks hw
    have hym : y ∈ fA.map (·.1) := hperm.mem_iff.mp (List.mem_reverse.mp (List.mem_of_getElem? hy))
    obtain ⟨u, hu⟩ := Option.isSome_iff_exists.mp (lookup_mem.mpr hym)
    have nl2 : l2 ≠ it := fun y => by rw [y, f2] at f3; cases f3
    generalize hH4 : H3.put it (.itl l2 (i + 1)) = H4
    have y1 : Ext H H4 := hH4 ▸ f1.put hitH
    have y2 : H4 it = some (.itl l2 (i + 1)) := hH4 ▸ put_self
    have y3 := (congrFun hH4 l2).symm.trans ((put_ne nl2).trans f3)
    have ya := (congrFun hH4 a2).symm.trans ((put_ne na).trans fa)
    have y6 := (congrFun hH4 d).symm.trans ((put_ne nd).trans f6)
    have y7 : Dic (Rep 2 E H4 n (fun b => H0 b = none ∧ b ≠ a2 ∧ b ≠ d ∧ b ≠ it)) fs3 sls := f7.mono fun t v r => r.mono (Nat.le_refl _) (Nat.le_refl _) (hH4 ▸ same_put f2 (fun y => y.2.2.2 rfl) (nE it0) rfl) fun b y => y.1
    have y0 := y1 _ _ h1
    repeat wtm_at "e1"
    refine we_itemD (y1 _ _ h2) h4.nodup hu ?_ rfl
    repeat wtm_at "e1"
    refine ih room ((h4.some _ _ hu).ext y1) (fun b hb => y1.live (e0.live (hE b hb))) fun w5 H5 e5 r5 => ?_
    have za := e5 _ _ ya
    have z6 := e5 _ _ y6
    repeat wtm_at "e1"
    have hn3 : fs3.length ≤ 16000000 := by
      have := sub_len (l' := fA.map (·.1)) f7.nodup fun y hy => by
        obtain ⟨u', hu'⟩ := Option.isSome_iff_exists.mp (lookup_mem.mpr hy)
        have hne := (f7.some y u' hu')
        refine Classical.byContradiction fun hno => ?_
        rw [f8.new y fun j _ hj => hno (hperm.mem_iff.mp (List.mem_reverse.mp (List.mem_of_getElem? hj)))] at hne
        exact hne.ne
      rw [List.length_map, List.length_map] at this
      omega
    refine we_setD z6 y7.nodup hn3 fun ep' => ?_
    have sd : ∀ {S : Addr → Prop}, ¬ S d → Same S E H5 (H5.put d (.dct (stored fs3 y w5) ep')) := fun hS => same_put z6 hS (nE d0) rfl
    repeat wtm_at "e1"
    refine turn_next ⟨(y1.trans e5).put hd, (put_ne nd.symm).trans (e5 _ _ y2), (put_ne n2.symm).trans (e5 _ _ y3), (put_ne nad).trans za, by wtm_at "lk", by wtm_at "lk", stored fs3 y w5, ep', _, put_self, Dic.put (y7.mono fun t v r => ?_) (t := ats y) ?_, f8.step hy⟩
    · exact (r.ext e5).mono (Nat.le_refl _) (Nat.le_refl _) (sd fun y => y.2.2.1 rfl) fun b y => y.1
    · exact r5.mono (Nat.le_refl _) (Nat.le_refl _) (sd fun y => absurd y (some_ne y6)) fun b y => ⟨(e0.trans y1).nn y.1, ne_of_none y.1 ya, ne_of_none y.1 y6, ne_of_none y.1 y2⟩
  · rintro m1 H3 ⟨f1, f2, f3, fa, f4, f5, fs3, ep3, sls, f6, f7, f8⟩
    have hs : sls = ats := f8.done (by rw [List.length_reverse, List.length_reverse, strs_len hks]; exact Nat.le_refl _) h4 fun y => List.mem_reverse.trans hperm.mem_iff
    subst hs
    have f7' := f7.mono (R' := Rep 2 E (H3.del it) n (fun b => H0 b = none ∧ b ≠ a2 ∧ b ≠ d ∧ b ≠ it)) fun t v r => r.mono (Nat.le_refl _) (Nat.le_refl _) (same_del f2 (fun y => y.2.2.2 rfl) (nE it0) rfl) fun b y => y.1
    have hl := dic_len (fun v => Rep.ne) (fun v => Rep.ne) f7' h4
    repeat wtm_at "e1"
    exact q _ _ _ (f1.del hitH) (show Node _ _ _ _ _ _ _ from .s4 (fun b x => x.1) a0 d0 (fun x => x.2.1 rfl) (fun x => x.2.2.1 rfl) ((del_ne na).trans fa) ((del_ne nd).trans f6) f7' (by omega) fun _ => ⟨hw.1, hw.2.imp_left fun h => List.length_eq_zero_iff.mp (by rw [hl, h]; rfl)⟩)
theorem comp_X2 {E : Addr → Prop} {c : Cx K} {m : Loc} {Hs H2 : AH} {Q : Addr → AH → Prop} {elt : Expr} {scope : Scope} {cl : List (Str × Addr)} {x y : Str}
    {it l : Addr} {ps : List Value} {El : Nat → (Addr → Prop) → Value → AH → Prop} (el : Elem E El)
    (x0 : Ext Hs H2) (hit : Hs it = none) (hs0 : H2 it = some (.itl l 0)) (hl : Hs l = some (.lst ps)) (hn : ps.length ≤ 1000) (hE : ∀ b, E b → Hs b ≠ none)
    (step : ∀ i v, ps[i]? = some v → ∃ t v1 v2, v = .ref t ∧ Hs t = some (.tup [v1, v2]) ∧ ∀ D H1 fs, Ext Hs H1 → H1 D = some (.ns ((y, v2) :: (x, v1) :: fs)) → ∀ Q' : Value → AH → Prop, (∀ z H4, Ext H1 H4 → El i (Fresh H1) z H4 → Q' z H4) → WE (c.comp scope cl D) (eval elt (c.comp scope cl D).env) m H1 Q')
    (fin : ∀ l vs H3, Ext Hs H3 → Hs l = none → H3 l = some (.lst vs) → vs.length = ps.length → (∀ i v, vs[i]? = some v → El i (fun b => Hs b = none ∧ b ≠ l) v H3) → Q l H3) : CompOk2 c x y elt scope cl m (.ref it) H2 Q := by
  refine ⟨it, l, ps, rfl, by rw [hs0]; rfl, fun acc D hacc hD hne => ?_⟩
  have ha0 := x0.nn hacc
  have hD0 := x0.nn hD
  have nai : it ≠ acc := (ne_of_none hacc hs0).symm
  have nDi : it ≠ D := (ne_of_none hD hs0).symm
  have S : ∀ b : Addr, Hs b = none → ¬ E b := fun b h x => hE b x h
  refine ⟨fun i vs H' => Ext Hs H' ∧ H' it = some (.itl l i) ∧ H' acc = some (.lst vs) ∧ vs.length = i ∧ i ≤ ps.length ∧ (∃ fs, H' D = some (.ns fs)) ∧ ∀ i v, vs[i]? = some v → El i (fun b => Hs b = none ∧ b ≠ acc ∧ b ≠ it ∧ b ≠ D) v H', ?_, ?_, ?_, ?_⟩
  · exact fun i vs H' h => ⟨h.2.1, h.1 _ _ hl, h.2.2.1, by rw [h.2.2.2.1]; exact Nat.le_trans h.2.2.2.2.1 hn, h.2.2.2.2.2.1⟩
  · exact ⟨(x0.put ha0).put hD0, (put_ne nDi).trans ((put_ne nai).trans hs0), (put_ne hne).trans put_self, rfl, Nat.zero_le _, ⟨_, put_self⟩, fun i v h => by simp at h⟩
  · rintro i v vs H1 fs hP ⟨j1, j2, j3, j4, j5, j6, j7⟩ hDf
    obtain ⟨t, v1, v2, rfl, ht, st⟩ := step i v hP
    refine ⟨t, v1, v2, rfl, j1 _ _ ht, (fun y => by rw [y, hit] at ht; cases ht), ?_⟩
    have hi : i < ps.length := (List.getElem?_eq_some_iff.mp hP).1
    have x1 : Ext Hs (((H1.put it (.itl l (i + 1))).put D (.ns ((x, v1) :: fs))).put D (.ns ((y, v2) :: (x, v1) :: fs))) := ((j1.put hit).put hD0).put hD0
    refine st D _ fs x1 put_self _ fun z H4 x4 hz => ?_
    have k3 : (((H1.put it (.itl l (i + 1))).put D (.ns ((x, v1) :: fs))).put D (.ns ((y, v2) :: (x, v1) :: fs))) acc = some (.lst vs) := (put_ne hne).trans ((put_ne hne).trans ((put_ne nai.symm).trans j3))
    have a4 : H4 acc = some (.lst vs) := x4 _ _ k3
    have d1 : (H1.put it (.itl l (i + 1))) D = some (.ns fs) := (put_ne nDi.symm).trans hDf
    have sm : ∀ {S' : Addr → Prop}, (∀ b, S' b → b ≠ acc) → Same S' E H4 (H4.put acc (.lst (vs ++ [z]))) := fun hS' => same_put a4 (fun h => hS' _ h rfl) (S _ ha0) rfl
    refine ⟨a4, (x1.trans x4).put ha0, (put_ne nai).trans (x4 _ _ ((put_ne nDi).trans ((put_ne nDi).trans put_self))), put_self, by rw [List.length_append, List.length_singleton, j4], hi, ⟨_, (put_ne (Ne.symm hne)).trans (x4 _ _ put_self)⟩, fun p w hw => ?_⟩
    rcases Nat.lt_trichotomy p vs.length with hp | hp | hp
    · rw [List.getElem?_append_left hp] at hw
      refine el.mono (j7 p w hw) ?_ fun _ h => h.1
      exact same_trans (same_trans (same_trans (same_trans (same_put j2 (fun h => h.2.2.1 rfl) (S _ hit) rfl) (same_put d1 (fun h => h.2.2.2 rfl) (S _ hD0) rfl)) (same_put put_self (fun h => h.2.2.2 rfl) (S _ hD0) rfl)) x4.same) (sm fun b h => h.2.1)
    · subst hp
      rw [List.getElem?_concat_length] at hw
      cases hw
      rw [j4]
      refine el.mono hz (sm fun b h => by rintro rfl; exact absurd h (some_ne k3)) fun b h => ⟨x1.nn h.1, ?_, ?_, ?_⟩
      · rintro rfl; exact absurd h.1 (some_ne k3)
      · rintro rfl; exact absurd h.1 (some_ne ((put_ne nDi).trans ((put_ne nDi).trans put_self)))
      · rintro rfl; exact absurd h.1 (some_ne put_self)
    · rw [List.getElem?_eq_none (by rw [List.length_append, List.length_singleton]; omega)] at hw
      cases hw
  · rintro vs H1 ⟨j1, j2, j3, j4, j5, ⟨fs, j6⟩, j7⟩
    refine fin acc vs _ ((j1.del hit).del hD0) ha0 ((del_ne hne).trans ((del_ne nai.symm).trans j3)) j4 fun p w hw => el.mono (j7 p w hw) ?_ fun b h => ⟨h.1.1, h.1.2.1⟩
    exact same_trans (same_del j2 (fun h => h.2.2.1 rfl) (S _ hit) rfl) (same_del ((del_ne nDi.symm).trans j6) (fun h => h.2.2.2 rfl) (S _ hD0) rfl)
theorem nform_elem (E : Addr → Prop) (n : Nat) (xs : List Str) (its : Nat → T) : Elem E (fun i S y H => ∃ g x t u, y = .ref g ∧ H g = some (.tup [.str x t, u]) ∧ xs[i]? = some x ∧ Rep 2 E H n S (its (i + 1)) u) := ⟨fun ⟨g, x, t, u, h1, h2, h3, h4⟩ hs hl => ⟨g, x, t, u, h1, tups hs _ _ h2, h3, h4.mono (Nat.le_refl _) (Nat.le_refl _) hs hl⟩⟩
theorem AtN.noA {E : Addr → Prop} {H0 H : AH} {n : Nat} {av : Value} (h : AtN E H0 H n av noA) : av = .none := by
  rcases h with h | ⟨_, _, _, _, _, _, _, _, _, h⟩
  · exact h.1
  · exact (h rfl).elim
theorem again_step {n : Nat} (ih : AgainAt n) : AgainAt (n + 1) := by
  intro c m H0 E S t v Q room hv hE q
  replace hv : Node 2 E H0 (Rep 2 E H0 n) S t v := hv
  obtain ⟨k, ds, its, sls, ats, a, fs, tk, av, S1, rfl, kv0, hS1, hav0⟩ := hv.head
  refine ws_funC (binds := [(Str.ofString "v", v)]) (ml := [(Str.ofString "v", v)]) (cells := fun n => [(Str.ofString "listed_x", n)]) (fn_again _) room.lt (fun _ => rfl) (by decide +kernel) (fun n => ⟨by simp, fun p hp => by simp at hp; subst hp; exact Nat.le_refl _⟩) (by kernel_rfl) ((show _ = (fun y => if y = Str.ofString "v" then some v else nm [] y) by kernel_rfl).trans (lookup_set _ _ [])) rfl (fun s hs _ _ _ _ _ _ _ _ => BindsTo.of_eq rfl) fun c' sub fr => ?_
  have room' := room.sub sub
  have e : EnvIs c' (fScope s24) [(Str.ofString "listed_x", c'.L + 1)] c'.L := sub.env
  have f1 : H0 (c'.L + 1) = none := fr (Str.ofString "listed_x", c'.L + 1) (.head _)
  generalize hHc : putCells _ _ H0 = H
  have e0 : Ext H0 H := hHc ▸ Ext.refl.put f1
  have kc : H (c'.L + 1) = some (.cell none) := hHc ▸ put_self
  clear hHc
  have nE : ∀ {b : Addr}, H0 b = none → ¬ E b := fun hb y => hE _ y hb
  generalize hb : fBody s24 = b
  conv at hb => lhs; whnf
  subst hb
  wtm_at "e1"
  wtm_at "e1"
  wtm_at "e1"
  wtm_at "e1"
  wtm_at "e1"
  have hEH : ∀ b, E b → H b ≠ none := fun b hb => e0.live (hE b hb)
  have sub0 : ∀ b, Fresh H b → Fresh H0 b := fun b hb => e0.nn hb
  refine again_attrs ih room' e Ext.refl hEH (kv0.ext e0) (hav0.ext e0) (by wtm_at "lk") (by wtm_at "lk") fun m' av' H2 e2 hmv hma hat => ?_
  have e02 := e0.trans e2
  have kv := kv0.ext e02
  have kc2 := e2 _ _ kc
  repeat wtm_at "e1"
  refine we_isV kv ?_
  repeat wtm_at "e1"
  refine ite_b (fun hvec => ?_) fun hvec => ?_
  · obtain ⟨a1, l, t1, av1, vs, S', rfl, sa, sl, na, nl, hs, h1, h2, h3, h4, rfl, h5⟩ := hv.vec hvec
    have g1 := e02 _ _ h1
    have g2 := e02 _ _ h2
    repeat wtm_at "e1"
    refine ws_assignC e (by kernel_rfl) (by wtm_at "lk") (by rfl) ?_
    repeat wtm_at "e1"
    refine we_newTuple (Nat.le_of_ble_eq_true rfl) fun tp htp => ?_
    refine we_inT put_self strs3 ?_
    rw [listed]
    generalize hH3 : AH.put H2 tp _ = H3
    have x3 : Ext H2 H3 := hH3 ▸ Ext.refl.put htp
    have kc3 := x3 _ _ kc2
    refine ⟨none, kc3, ?_⟩
    have x4 : Ext H0 (H3.put (c'.L + 1) (.cell (some (.bool k.isList)))) := (e02.trans x3).put f1
    have kc4 : (H3.put (c'.L + 1) (.cell (some (.bool k.isList)))) (c'.L + 1) = some (.cell (some (.bool k.isList))) := put_self
    have nc : ∀ {b : Addr} {o : AO}, H3 b = some o → (∀ u, o ≠ .cell u) → (H3.put (c'.L + 1) (.cell (some (.bool k.isList)))) b = some o := fun hb ho => by
      rw [put_ne]; exact hb
      rintro rfl; rw [kc3] at hb; cases hb; exact ho _ rfl
    have g14 := nc (x3 _ _ g1) fun u h => (nomatch h)
    have g24 := nc (x3 _ _ g2) fun u h => (nomatch h)
    have hat4 : AtN E H (H3.put (c'.L + 1) (.cell (some (.bool k.isList)))) n av' ats := by
      rcases hat.ext x3 with h | ⟨d, fs, ep, h1, h2, h3, h4, h5⟩
      · exact .inl h
      · exact .inr ⟨d, fs, ep, h1, h2, nc h3 (fun u h => nomatch h), h4.mono fun t v r => r.mono (Nat.le_refl _) (Nat.le_refl _) (same_put kc3 (fun y => absurd y.1 (some_ne kc)) (nE f1) rfl) fun b y => y.1, h5⟩
    have n34 : ∀ {b : Addr}, (H3.put (c'.L + 1) (.cell (some (.bool k.isList)))) b = none → H b = none := fun hb => e2.nn (x3.nn (none_of_put hb).1)
    generalize H3.put (c'.L + 1) (.cell (some (.bool k.isList))) = H4 at x4 kc4 g14 g24 hat4 n34 ⊢
    repeat wtm_at "e1"
    refine we_listComp (cl := [(Str.ofString "listed_x", c'.L + 1)]) ⟨e, by kernel_rfl, by kernel_rfl, rfl, fun _ => rfl⟩ (by kernel_rfl) ?_
    repeat wtm_at "e1"
    refine we_iterL g24 fun it hit => ?_
    refine comp_X (xrel_ext E) (kid_elem E n k.isList vs its) (Hs := H4) (n := vs.length) (st := fun i => .itl l i) (Ext.refl.put hit) hit put_self (by omega) (fun _ => rfl) (fun D => drives_list (vs := vs)) (fun D => self_list) (fun H' x => x _ _ g24) (fun _ _ => trivial) (fun b hb => x4.live (hE b hb)) ?_ ?_
    · intro p w D H5 fs5 hp hw x5 hD Q' q'
      have kc5 := x5 _ _ kc4
      repeat wtm_at "e1"
      refine ite_b (fun hb => ?_) fun hb => ?_
      · repeat wtm_at "e1"
        rcases h5 with ⟨hk, _⟩ | ⟨hk, _, hkids⟩
        · exact absurd hb (by rw [(Kd.leafV hk).2.2]; exact fun h => nomatch h)
        refine ih (c := c'.comp _ _ D) room' ((hkids.1 _ _ hw).ext (x4.trans x5)) (fun b hb => (x4.trans x5).live (hE b hb)) fun w6 H6 e6 r6 => ?_
        exact q' _ _ e6 ⟨fun _ => r6, fun h => nomatch h.symm.trans hb⟩
      · repeat wtm_at "e1"
        exact q' _ _ Ext.refl ⟨fun h => (nomatch h.symm.trans hb), fun _ => hw⟩
    · intro l2 vs2 H5 x5 hl2 kl2 zl2 hel
      repeat wtm_at "e1"
      refine mk_Vector3 (room'.mono (by omega)) fun a2 H6 e6 ha2 ka2 => ?_
      repeat wtm_at "e1"
      have x46 := x5.trans e6
      have x06 := x4.trans x46
      refine q _ _ x06 (Rep.mono (n := n + 1) (S := Fresh H) (H := H6) (Nat.le_refl _) ?_ (Nat.le_refl _) Ext.refl.same fun b hb => sub0 b hb.1)
      have at6 := hat4.attrs (fun b => b = a2 ∨ b = l2) x46 (fun b hb => by
        rcases hb with rfl | rfl
        · exact x5.nn ha2
        · exact hl2)
      have n2 : a2 ≠ l2 := ne_of_none ha2 kl2
      have na2 : H a2 = none := n34 (x5.nn ha2)
      have nl2 : H l2 = none := n34 hl2
      have avl : av' ≠ .ref a2 ∧ ∀ b, H4 b = none → av' ≠ .ref b := by
        have : ∀ b, H4 b = none → av' ≠ .ref b := fun b hb y => by
          rcases hat4 with ⟨h, _⟩ | ⟨d, fs, ep, h1, h2, h3, _⟩
          · rw [h] at y; cases y
          · rw [h1] at y; cases y; rw [h3] at hb; cases hb
        exact ⟨this _ (x5.nn ha2), this⟩
      rcases h5 with ⟨hk, hlits, rfl⟩ | ⟨hk, rfl, hkids⟩
      · have hlf := (Kd.leafV hk).2.2
        obtain rfl := same_list zl2 fun i v hv => (hel i v hv).2 hlf
        exact show Node _ _ _ _ _ _ _ from .leaf hk (fun b x => x.1) na2 nl2 (fun x => x.2.1 (.inl rfl)) (fun x => x.2.1 (.inr rfl)) ka2 (e6 _ _ kl2) (hlits.mono fun _ _ => x06 _ _) (by omega) at6
      · exact show Node _ _ _ _ _ _ _ from .list hk (fun b x => x.1) na2 nl2 (fun x => x.2.1 (.inl rfl)) (fun x => x.2.1 (.inr rfl)) ka2 (e6 _ _ kl2) ⟨fun i v hv => ((hel i v hv).1 hk).mono (Nat.le_refl _) (Nat.le_refl _) e6.same fun b y => ⟨n34 y.1.1, fun z => z.elim (fun z => y.2 (z ▸ ha2)) y.1.2, avl.2 _ y.1.1⟩, fun i hi => hkids.2 i (by omega)⟩ (by omega) at6
  have done : ∀ {v' : Value} {H' : AH}, Ext H2 H' → Node 2 E H' (Rep 2 E H' n) (Fresh H) (.node k ds its sls ats) v' → Q v' H' := fun {v' H'} x r => q _ _ (e02.trans x) (Rep.mono (n := n + 1) (S := Fresh H) (Nat.le_refl _) r (Nat.le_refl _) Ext.refl.same fun b hb => sub0 b hb.1)
  have hE2 : ∀ b, E b → H2 b ≠ none := fun b hb => e02.live (hE b hb)
  repeat wtm_at "e1"
  refine we_kind kv ?_
  repeat wtm_at "e1"
  refine we_eqS ?_
  repeat wtm_at "e1"
  refine ite_b (fun hb => ?_) fun hb0 => ?_
  · obtain rfl := (kd_beq k .call rfl).mp hb
    cases hv with
    | call hs sa sl sg ng na nl ng2 h1 h2 h3 h4 h5 h6 h7 h8 h9 =>
      obtain ⟨hne, rfl, ds', rfl⟩ := h8 (Nat.le_refl _)
      cases h9
      obtain rfl := hat.noA
      have g1 := e02 _ _ h1
      have g2 := e02 _ _ h2
      have g3 := e02 _ _ h3
      wtm_at "e1"
      wtm_at "e1"
      wtm_at "e1"
      wtm_at "e1"
      wtm_at "e1"
      wtm_at "e1"
      refine we_listComp (cl := []) ⟨e, by kernel_rfl, by kernel_rfl, rfl, fun _ => rfl⟩ (by kernel_rfl) ?_
      repeat wtm_at "e1"
      refine we_iterL g2 fun it hit => ?_
      refine comp_X (xrel_ext E) (kid_elem E n true [] its) (Hs := H2) (n := _) (st := fun i => .itl _ i) (Ext.refl.put hit) hit put_self (by omega) (fun _ => rfl) (fun D => drives_list) (fun D => self_list) (fun H' x => x _ _ g2) (fun _ _ => trivial) hE2 ?_ ?_
      · intro p w D H5 fs5 hp hw x5 hD Q' q'
        repeat wtm_at "e1"
        refine ih (c := c'.comp _ _ D) room' ((h4.1 _ _ hw).ext (e02.trans x5)) (fun b hb => x5.live (hE2 b hb)) fun w6 H6 e6 r6 => ?_
        exact q' _ _ e6 ⟨fun _ => r6, fun h => nomatch h⟩
      · intro l2 vs2 H5 x5 hl2 kl2 zl2 hel
        have g35 := x5 _ _ g3
        have g15 := x5 _ _ g1
        repeat wtm_at "e1"
        refine we_listL g35 (by omega) fun lg hlg => ?_
        repeat wtm_at "e1"
        refine mk_Call3 (room'.mono (by omega)) fun a2 ta H6 e6 ha2 ka2 => ?_
        have e56 := (Ext.refl.new hlg).trans e6
        have kg := e6 _ _ (put_self (H := H5) (a := lg) (o := .lst _))
        have ha5 := (Ext.refl.new hlg).nn ha2
        have ngl : l2 ≠ lg := (ne_of_none hlg kl2).symm
        have nag := (none_of_put ha2).2
        repeat wtm_at "e1"
        refine done (x5.trans e56) (.call (S' := fun b => H b = none ∧ b ≠ a2 ∧ b ≠ l2 ∧ b ≠ lg) (fun b x => x.1) (e2.nn (x5.nn ha5)) (e2.nn hl2) (e2.nn (x5.nn hlg)) ngl (fun x => x.2.1 rfl) (fun x => x.2.2.1 rfl) (fun x => x.2.2.2 rfl) ka2 (e56 _ _ kl2) kg ⟨fun i v hv => ((hel i v hv).1 rfl).mono (Nat.le_refl _) (Nat.le_refl _) e56.same fun b y => ⟨e2.nn y.1.1, fun z => y.2 (z ▸ ha5), y.1.2, fun z => y.2 (z ▸ hlg)⟩, fun i hi => h4.2 i (by omega)⟩ (h5.mono fun _ _ => (e02.trans (x5.trans e56)) _ _) (by omega) (by omega) (fun _ => ⟨fun h => hne (List.length_eq_zero_iff.mp (by rw [← zl2, h]; rfl)), rfl, ds', rfl⟩) .none)
    | leaf hk => exact nomatch hk
    | list hk => exact nomatch hk
  repeat wtm_at "e1"
  refine we_kind kv ?_
  repeat wtm_at "e1"
  refine we_eqS ?_
  repeat wtm_at "e1"
  refine ite_b (fun hb => ?_) fun hb1 => ?_
  · obtain rfl := (kd_beq k .sym rfl).mp hb
    cases hv with
    | sym sa h1 hx =>
      have g1 := e02 _ _ h1
      repeat wtm_at "e1"
      refine mk_Symbol (room'.mono (by omega)) fun a2 ta H6 e6 ha2 ka2 => ?_
      repeat wtm_at "e1"
      exact done e6 (.sym (e2.nn ha2) ka2 hx)
    | leaf hk => exact nomatch hk
    | list hk => exact nomatch hk
  repeat wtm_at "e1"
  refine we_kind kv ?_
  repeat wtm_at "e1"
  refine we_eqS ?_
  repeat wtm_at "e1"
  refine ite_b (fun hb => ?_) fun hb2 => ?_
  · obtain rfl := (kd_beq k .clo rfl).mp hb
    cases hv with
    | @clo _ _ _ _ _ _ _ _ _ _ ps xs _ _ hs sa sl na nl h1 h2 h3 h4 h5 h6 h7 h8 =>
      obtain rfl := hat.noA
      have g1 := e02 _ _ h1
      have g2 := e02 _ _ h2
      have g7 := e02 _ _ h7
      repeat wtm_at "e1"
      refine we_pairComp (cl := []) ⟨e, by kernel_rfl, by kernel_rfl, rfl, fun _ => rfl⟩ (by kernel_rfl) (by kernel_rfl) ?_
      repeat wtm_at "e1"
      refine we_iterL g2 fun it hit => ?_
      refine comp_X2 (nform_elem E n xs its) (Hs := H2) (Ext.refl.put hit) hit put_self g2 (by omega) hE2 ?_ ?_
      · intro p w hw
        obtain ⟨g, x, tx, u, rfl, hg, hxs, hr⟩ := h3.2.1 p w hw
        refine ⟨g, _, _, rfl, e02 _ _ hg, fun D H5 fs5 x5 hD Q' q' => ?_⟩
        repeat wtm_at "e1"
        refine ih (c := c'.comp _ _ D) room' (hr.ext (e02.trans x5)) (fun b hb => x5.live (hE2 b hb)) fun w6 H6 e6 r6 => ?_
        repeat wtm_at "e1"
        refine we_newTuple (Nat.le_of_ble_eq_true rfl) fun g6 hg6 => ?_
        exact q' _ _ (e6.new hg6) ⟨g6, x, tx, w6, rfl, put_self, hxs, r6.mono (Nat.le_refl _) (Nat.le_refl _) (Ext.refl.new hg6).same fun b y => y.1⟩
      · intro l2 vs2 H5 x5 hl2 kl2 zl2 hel
        have g15 := x5 _ _ g1
        have hbv := h4.handed
        repeat wtm_at "e1"
        refine ih room' (h4.ext (e02.trans x5)) (fun b hb => x5.live (hE2 b hb)) fun bv6 H6 e6 r6 => ?_
        have g16 := e6 _ _ g15
        repeat wtm_at "e1"
        refine mk_Closure4 (room'.mono (by omega)) fun a2 ta H7 e7 ha2 ka2 => ?_
        have e57 := e6.trans e7
        have ha5 := e6.nn ha2
        repeat wtm_at "e1"
        refine done (x5.trans e57) (.clo (S' := fun b => H b = none ∧ b ≠ a2 ∧ b ≠ l2) (fun b x => x.1) (e2.nn (x5.nn ha5)) (e2.nn hl2) (fun x => x.2.1 rfl) (fun x => x.2.2 rfl) ka2 (e57 _ _ kl2) ⟨by rw [zl2]; exact h3.1, fun i v hv => ?_, fun i hi => h3.2.2 i (by omega)⟩ (r6.mono (Nat.le_refl _) (Nat.le_refl _) e7.same fun b y => ⟨e2.nn (x5.nn y.1), fun z => y.2 (z ▸ ha2), ne_of_none y.1 kl2⟩) (.inr (h6 (Nat.le_refl _))) h6 ((x5.trans e57) _ _ g7) (by omega))
        obtain ⟨g, x, tx, u, h1', h2', h3', h4'⟩ := hel i v hv
        exact ⟨g, x, tx, u, h1', e57 _ _ h2', h3', h4'.mono (Nat.le_refl _) (Nat.le_refl _) e57.same fun b y => ⟨e2.nn y.1.1, fun z => y.2 (z ▸ ha5), y.1.2⟩⟩
    | leaf hk => exact nomatch hk
    | list hk => exact nomatch hk
  repeat wtm_at "e1"
  refine we_kind kv ?_
  repeat wtm_at "e1"
  refine we_eqS ?_
  repeat wtm_at "e1"
  refine ite_b (fun hb => ?_) fun hb3 => ?_
  · obtain rfl := (kd_beq k .env rfl).mp hb
    cases hv with
    | env sa h1 =>
      have g1 := e02 _ _ h1
      repeat wtm_at "e1"
      refine mk_Env (room'.mono (by omega)) fun a2 ta f2 l2 H6 e6 ha2 ka2 => ?_
      repeat wtm_at "e1"
      exact done e6 (.env (.inl (e2.nn ha2)) ka2)
    | leaf hk => exact nomatch hk
    | list hk => exact nomatch hk
  repeat wtm_at "e1"
  refine we_kind kv ?_
  repeat wtm_at "e1"
  refine we_eqS ?_
  repeat wtm_at "e1"
  refine ite_b (fun hb => ?_) fun hb4 => ?_
  · obtain rfl := (kd_beq k .s4 rfl).mp hb
    cases hv with
    | s4 hs sa sd na nd h1 h2 h3 h4 h5 =>
      refine again_s4 ih room' e e2 hEH (e02 _ _ h1) (e02 _ _ h2) (h3.mono fun t v r => r.ext e02) (by omega) (h5 (Nat.le_refl _)) hmv fun m3 v3 H3 e3 r3 => ?_
      exact done e3 r3
    | leaf hk => exact nomatch hk
    | list hk => exact nomatch hk
  repeat wtm_at "e1"
  refine we_kind kv ?_
  repeat wtm_at "e1"
  refine we_eqS ?_
  repeat wtm_at "e1"
  refine ite_b (fun hb => ?_) fun hb5 => ?_
  · obtain rfl := (kd_beq k .miss rfl).mp hb
    cases hv with
    | miss sa h1 =>
      repeat wtm_at "e1"
      refine mk_Missing (room'.mono (by omega)) fun a2 ta H6 e6 ha2 ka2 => ?_
      repeat wtm_at "e1"
      exact done e6 (.miss (e2.nn ha2) ka2)
    | leaf hk => exact nomatch hk
    | list hk => exact nomatch hk
  · repeat wtm_at "e1"
    refine mk_Null (room'.mono (by omega)) fun a2 ta H6 e6 ha2 ka2 => ?_
    repeat wtm_at "e1"
    cases hv with
    | null sa h1 => exact done e6 (.null (e2.nn ha2) ka2)
    | miss => exact nomatch hb5
    | sym => exact nomatch hb1
    | env => exact nomatch hb3
    | leaf hk => exact nomatch (Kd.leafV hk).2.1.symm.trans hvec
    | list hk => exact nomatch (Kd.listV hk).2.1.symm.trans hvec
    | call => exact nomatch hb0
    | clo => exact nomatch hb2
    | s4 => exact nomatch hb4
theorem again_all : ∀ n, AgainAt n
  | 0 => fun _ h => h.elim
  | n + 1 => again_step (again_all n)
/-- the homes' numbers -/
noncomputable def Homes9 (E : Addr → Prop) (H : AH) : Prop := ∀ b, E b → ∃ t t' i f l, H b = some (.inst 175 (fEnv t t' i f l)) ∧ i ≠ 9
theorem Homes9.live {E : Addr → Prop} {H : AH} (h : Homes9 E H) : ∀ b, E b → H b ≠ none := fun b hb => by
  obtain ⟨_, _, _, _, _, h, _⟩ := h b hb
  exact some_ne h
theorem Homes9.go {E : Addr → Prop} {R : Addr} {H H' : AH} (h : Homes9 E H) (x : ExtR R H H') (hR : ¬ E R) : Homes9 E H' := fun b hb => by
  obtain ⟨t, t', i, f, l, h1, h2⟩ := h b hb
  exact ⟨t, t', i, f, l, x.keep _ _ h1 fun y => hR (y ▸ hb), h2⟩
/-- what _law_altered does -/
noncomputable def AlterAt (n : Nat) : Prop := ∀ {c : Cx K} {m : Loc} {H : AH} {E S : Addr → Prop} {R : Addr} {k : Nat} {t : T} {v : Value} {Q : Value → AH → Prop}, Room c (n + 6) → k ≤ 160 → Rep 2 E H n S t v → RowAt E R k H → Homes9 E H →
  (∀ t' v' H', XR E R k H H' → t' ≠ t → Rep 0 E H' (n + 1) (Fresh H) t' v' → Q v' H') → WE c (call (.ref 292) [.ref R, v]) m H Q
noncomputable def updI (its : Nat → T) (p : Nat) (t : T) : Nat → T := fun i => if i = p then t else its i
noncomputable def updA (ats : Str → T) (x : Str) (t : T) : Str → T := fun y => if y = x then t else ats y
theorem updI_ne {its : Nat → T} {p : Nat} {t : T} (h : t ≠ its p) : updI its p t ≠ its := fun e => h (by rw [← congrFun e p]; exact (if_pos rfl).symm)
theorem updA_ne {ats : Str → T} {x : Str} {t : T} (h : t ≠ ats x) : updA ats x t ≠ ats := fun e => h (by rw [← congrFun e x]; exact (if_pos rfl).symm)
theorem Kids.snocL {R : T → Value → Prop} {vs : List Value} {its : Nat → T} {v : Value} {t : T} (h : ∀ (i : Nat) (v : Value), vs[i]? = some v → R (its i) v) (h2 : ∀ i, vs.length < i → its i = .no) (hr : R t v) : Kids R (vs ++ [v]) (updI its vs.length t) := by
  refine ⟨fun i w hi => ?_, fun i hi => ?_⟩
  · unfold updI
    rcases Nat.lt_trichotomy i vs.length with hp | hp | hp
    · rw [List.getElem?_append_left hp] at hi
      rw [if_neg (by omega)]
      exact h i w hi
    · subst hp
      rw [List.getElem?_concat_length] at hi
      cases hi
      rw [if_pos rfl]
      exact hr
    · rw [List.getElem?_eq_none (by rw [List.length_append, List.length_singleton]; omega)] at hi
      cases hi
  · rw [List.length_append, List.length_singleton] at hi
    unfold updI
    rw [if_neg (by omega)]
    exact h2 i (by omega)
theorem Kids.set0 {R : T → Value → Prop} {vs : List Value} {its : Nat → T} {x v : Value} {t : T} (h : Kids R (x :: vs) its) (hr : R t v) : Kids R (v :: vs) (updI its 0 t) := by
  refine ⟨fun i w hi => ?_, fun i hi => ?_⟩
  · unfold updI
    cases i with
    | zero => cases hi; rw [if_pos rfl]; exact hr
    | succ i => rw [if_neg (by omega)]; exact h.1 (i + 1) w hi
  · unfold updI
    rw [if_neg (by have := hi; simp at this; omega)]
    exact h.2 i (by simpa using hi)
/-- the room within _law_altered -/
structure AS (c : Cx K) (E : Addr → Prop) (R : Addr) (k : Nat) (H0 H : AH) (a : Addr) (m : Loc) : Prop where
  x : XR E R k H0 H
  cell : H (c.L + 1) = some (.cell (some (.ref a)))
  c0 : H0 (c.L + 1) = none
  row : m.lookup (Str.ofString "row") = some (.ref R)
  hE : Homes9 E H0
theorem nR0 {E : Addr → Prop} {R : Addr} {k : Nat} {H0 : AH} (h : RowAt E R k H0) : ∀ {b : Addr}, H0 b = none → b ≠ R := fun hb y => h.live (y ▸ hb)
theorem ExtR.alive {R : Addr} {H H' : AH} {b : Addr} (h : ExtR R H H') (hb : H b ≠ none) : H' b ≠ none := fun x => hb (h.nn x)
noncomputable abbrev cellsA (c : Cx K) : List (Str × Addr) := [(Str.ofString "v", c.L + 1)]
theorem lit_ne : ∀ {ds : List Dat} {d : Dat}, ds ++ [d] ≠ ds
  | [], _, h => nomatch h
  | _ :: ds, _, h => lit_ne (List.cons.inj h).2
theorem alt_call {c : Cx K} {m : Loc} {H0 H : AH} {Q : Flow → Loc → AH → Prop} {E S S1 : Addr → Prop} {R : Addr} {k n j : Nat} {a l g : Addr} {ta tj : Tok} {vs ts : List Value} {ds : List Dat} {its : Nat → T}
    (ih : AlterAt n) (room : Room c (n + 6)) (hk : k ≤ 160) (e : EnvIs c (fScope s25) [(Str.ofString "v", c.L + 1)] c.L) (as : AS c E R k H0 H a m) (hS : ∀ b, S b → H0 b = none ∧ b ≠ c.L + 1)
    (hs : ∀ b, S1 b → S b) (sa : S a) (sl : S l) (sg : S g) (ng : l ≠ g) (na : ¬ S1 a) (nl : ¬ S1 l) (ng2 : ¬ S1 g) (h1 : H a = some (.inst 131 (fCall ta l g .none))) (h2 : H l = some (.lst vs)) (h3 : H g = some (.lst ts)) (h4 : Kids (Rep 2 E H n S1) vs its) (h5 : LitsAre H ts (.none :: ds)) (z1 : vs.length + 2 ≤ 900) (z2 : ts.length + 2 ≤ 900) (hne : vs ≠ [])
    (hj : m.lookup (Str.ofString "draw") = some (.int (j : Int) tj))
    (q : ∀ m' t' H', XR E R k H0 H' → t' ≠ .node .call (.none :: ds) its noA noA → Rep 0 E H' (n + 2) (Fresh H0) t' (.ref a) → Q (.ret (.ref a)) m' H') : WS c (execs (ifBody (nth 2 (fBody s25))) c.env) m H Q := by
  have xh := xrel_row E R k
  have nR : ∀ {b : Addr}, H0 b = none → b ≠ R := fun hb => nR0 as.x.r hb
  have g1 := as.cell
  have hrow := as.row
  have nE : ∀ {b : Addr}, H0 b = none → ¬ E b := fun hb y => as.hE.live _ y hb
  have a0 := (hS a sa).1
  have l0 := (hS l sl).1
  have g0 := (hS g sg).1
  have nal : a ≠ l := fun y => by rw [y, h2] at h1; cases h1
  have nag : a ≠ g := fun y => by rw [y, h3] at h1; cases h1
  generalize hb : ifBody (nth 2 (fBody s25)) = b
  conv at hb => lhs; whnf
  subst hb
  have kids : Kids (Rep 0 E H (n + 1) (fun b => H0 b = none ∧ b ≠ a ∧ b ≠ l ∧ b ≠ g)) vs its := h4.mono fun t v r => r.mono (Nat.zero_le _) (Nat.le_succ _) Ext.refl.same fun b y => ⟨(hS b (hs b y.1)).1, fun z => na (z ▸ y.1), fun z => nl (z ▸ y.1), fun z => ng2 (z ▸ y.1)⟩
  have mk : ∀ {H' : AH} {vs' ts' : List Value} {ds' : List Dat} {its' : Nat → T}, H' a = some (.inst 131 (fCall ta l g .none)) → H' l = some (.lst vs') → H' g = some (.lst ts') → Kids (Rep 0 E H' (n + 1) (fun b => H0 b = none ∧ b ≠ a ∧ b ≠ l ∧ b ≠ g)) vs' its' → LitsAre H' ts' ds' → vs'.length ≤ 900 → ts'.length ≤ 900 → Rep 0 E H' (n + 2) (Fresh H0) (.node .call ds' its' noA noA) (.ref a) := fun k1 k2 k3 k4 k5 z1 z2 => show Node _ _ _ _ _ _ _ from .call (fun b x => x.1) a0 l0 g0 ng (fun x => x.2.1 rfl) (fun x => x.2.2.1 rfl) (fun x => x.2.2.2 rfl) k1 k2 k3 k4 k5 z1 z2 (fun h => absurd h (by omega)) .none
  repeat wtm_at "e1"
  refine we_eqI ?_
  repeat wtm_at "e1"
  refine ite_b (fun hb => ?_) fun hb => ?_
  · cases h5 with
    | cons hd hds =>
      repeat wtm_at "e1"
      refine we_setL (j := 0) h3 rfl (Nat.zero_lt_succ _) (by omega) ?_
      generalize hH' : AH.put H g _ = H'
      have sm : ∀ {S : Addr → Prop}, ¬ S g → Same S E H H' := fun hS => hH' ▸ same_put h3 hS (nE g0) rfl
      have p1 : H' a = _ := hH' ▸ (put_ne nag).trans h1
      have p2 : H' l = _ := hH' ▸ (put_ne ng).trans h2
      have p3 := (congrFun hH' g).symm.trans put_self
      have pc : H' (c.L + 1) = _ := hH' ▸ (put_ne (Ne.symm (hS g sg).2)).trans g1
      have x' : XR E R k H0 H' := hH' ▸ xh.put as.x g0
      repeat wtm_at "e1"
      refine q _ _ _ x' ?_ (mk p1 p2 p3 (kids.mono fun t v r => r.mono (Nat.le_refl _) (Nat.le_refl _) (sm fun y => y.2.2.2 rfl) fun b y => y.1) (.cons (.str _ _ (by kernel_rfl)) (hds.mono (tups (sm (S := fun _ => False) id)))) (by omega) (by simpa using Nat.le_trans (Nat.le_add_right _ 2) z2))
      intro h
      injection h with _ h
      injection h with h
      cases h
  repeat wtm_at "e1"
  refine we_eqI ?_
  repeat wtm_at "e1"
  refine ite_b (fun hb => ?_) fun hb => ?_
  · repeat wtm_at "e1"
    refine we_mAppend h2 ?_
    repeat wtm_at "e1"
    refine mk_Null (room.mono (by omega)) fun a2 t2 H1 e1 ha2 ka2 => ?_
    have x1 : XR E R k H H1 := ⟨as.x.r', e1.toR R, as.x.r'.ext e1⟩
    have p1 := e1 _ _ h1
    have p2 := e1 _ _ h2
    have p3 := e1 _ _ h3
    have pc := e1 _ _ g1
    have nul : Rep 0 E H1 (n + 1) (fun b => H0 b = none ∧ b ≠ a ∧ b ≠ l ∧ b ≠ g) (.node .null [] noI noA noA) (.ref a2) := show Node _ _ _ _ _ _ _ from .null ⟨as.x.ext.nn ha2, ne_of_none ha2 h1, ne_of_none ha2 h2, ne_of_none ha2 h3⟩ ka2
    repeat wtm_at "e1"
    refine we_append p2 (by omega) ?_
    generalize hH2 : AH.put H1 l _ = H2
    have s2 : ∀ {S : Addr → Prop}, ¬ S l → Same S E H1 H2 := fun hS => hH2 ▸ same_put p2 hS (nE l0) rfl
    have r1 : H2 a = _ := hH2 ▸ (put_ne nal).trans p1
    have r2 := (congrFun hH2 l).symm.trans put_self
    have r3 : H2 g = _ := hH2 ▸ (put_ne (Ne.symm ng)).trans p3
    have rc : H2 (c.L + 1) = _ := hH2 ▸ (put_ne (Ne.symm (hS l sl).2)).trans pc
    repeat wtm_at "e1"
    refine we_mAppend r3 ?_
    repeat wtm_at "e1"
    refine we_append r3 (by omega) ?_
    generalize hH3 : AH.put H2 g _ = H3
    have s3 : ∀ {S : Addr → Prop}, ¬ S g → Same S E H2 H3 := fun hS => hH3 ▸ same_put r3 hS (nE g0) rfl
    have u1 : H3 a = _ := hH3 ▸ (put_ne nag).trans r1
    have u2 := (congrFun hH3 l).symm.trans ((put_ne ng).trans r2)
    have u3 := (congrFun hH3 g).symm.trans put_self
    have uc : H3 (c.L + 1) = _ := hH3 ▸ (put_ne (Ne.symm (hS g sg).2)).trans rc
    have x3 : XR E R k H0 H3 := hH3 ▸ xh.put (hH2 ▸ xh.put (xh.trans as.x x1) l0) g0
    repeat wtm_at "e1"
    have sm : Same (fun b => H0 b = none ∧ b ≠ a ∧ b ≠ l ∧ b ≠ g) E H1 H3 := same_trans (s2 fun y => y.2.2.1 rfl) (s3 fun y => y.2.2.2 rfl)
    have kids2 := Kids.snocL (R := Rep 0 E H3 (n + 1) (fun b => H0 b = none ∧ b ≠ a ∧ b ≠ l ∧ b ≠ g)) (fun i v hv => ((kids.1 i v hv).ext e1).mono (Nat.le_refl _) (Nat.le_refl _) sm fun b y => y.1) (fun i hi => kids.2 i (by omega)) (nul.mono (Nat.le_refl _) (Nat.le_refl _) sm fun b y => y.1)
    refine q _ _ _ x3 ?_ (mk u1 u2 u3 kids2 (((h5.mono fun _ _ => e1 _ _).mono (tups sm)).snoc .none) (by simp; omega) (by simp; omega))
    intro h
    injection h with _ h
    exact lit_ne h
  · obtain ⟨vs', w, rfl⟩ : ∃ vs' w, vs = vs' ++ [w] := ⟨vs.dropLast, vs.getLast hne, (List.dropLast_concat_getLast hne).symm⟩
    have hw := h4.1 vs'.length w List.getElem?_concat_length
    repeat wtm_at "e1"
    refine we_negI fun tn => ?_
    refine we_itemBack h2 ?_ rfl
    repeat wtm_at "e1"
    refine ih (c := c) room hk hw as.x.r' (as.hE.go as.x.ext as.x.r.nE) fun t2 w2 H1 x1 tne r1 => ?_
    have p1 := x1.ext.keep _ _ h1 (nR a0)
    have p2 := x1.ext.keep _ _ h2 (nR l0)
    have p3 := x1.ext.keep _ _ h3 (nR g0)
    have pc := x1.ext.keep _ _ g1 (nR as.c0)
    repeat wtm_at "e1"
    refine we_negI fun tn => ?_
    refine we_setBack p2 ?_
    generalize hH2 : AH.put H1 l _ = H2
    have s2 : ∀ {S : Addr → Prop}, ¬ S l → Same S E H1 H2 := fun hS => hH2 ▸ same_put p2 hS (nE l0) rfl
    have u1 : H2 a = _ := hH2 ▸ (put_ne nal).trans p1
    have u2 := (congrFun hH2 l).symm.trans put_self
    have u3 : H2 g = _ := hH2 ▸ (put_ne (Ne.symm ng)).trans p3
    have uc : H2 (c.L + 1) = _ := hH2 ▸ (put_ne (Ne.symm (hS l sl).2)).trans pc
    have x2 : XR E R k H0 H2 := hH2 ▸ xh.put (xh.trans as.x x1) l0
    have sm : Same (fun b => H0 b = none ∧ b ≠ a ∧ b ≠ l ∧ b ≠ g) E H H2 := same_trans (xh.same x1 fun b y => nR y.1) (s2 fun y => y.2.2.1 rfl)
    have kids2 := Kids.snocL (R := Rep 0 E H2 (n + 1) (fun b => H0 b = none ∧ b ≠ a ∧ b ≠ l ∧ b ≠ g)) (t := t2) (v := w2) (vs := vs') (its := its) (fun i v hv => (kids.1 i v (by rw [List.getElem?_append_left (List.getElem?_eq_some_iff.mp hv).1]; exact hv)).mono (Nat.le_refl _) (Nat.le_refl _) sm fun b y => y.1) (fun i hi => kids.2 i (by simp; omega)) (r1.mono (Nat.le_refl _) (Nat.le_refl _) (s2 fun y => absurd y (some_ne h2)) fun b y => ⟨as.x.ext.nn y.1, ne_of_none y.1 h1, ne_of_none y.1 h2, ne_of_none y.1 h3⟩)
    repeat wtm_at "e1"
    refine q _ _ _ x2 ?_ (mk u1 u2 u3 kids2 (h5.mono (tups sm)) (by simp at z1 ⊢; omega) (by omega))
    intro h
    injection h with _ _ h
    exact updI_ne tne h
theorem Formals.mono {H H' : AH} {R R' : T → Value → Prop} {ps : List Value} {xs : List Str} {its its' : Nat → T} (h : Formals H R ps xs its) (hR : ∀ t v, R t v → R' t v) (hs : ∀ a vs, H a = some (.tup vs) → H' a = some (.tup vs)) (hi : ∀ i, its' (i + 1) = its (i + 1)) : Formals H' R' ps xs its' :=
  ⟨h.1, fun i p hp => by
    obtain ⟨g, x, t, u, h1, h2, h3, h4⟩ := h.2.1 i p hp
    exact ⟨g, x, t, u, h1, hs _ _ h2, h3, hi i ▸ hR _ _ h4⟩, fun i hi' => (hi i).trans (h.2.2 i hi')⟩
theorem clo_ne {i : Int} {xs : List Str} {z : Str} : ¬ (Dat.int i :: (xs ++ [z]).map Dat.str = Dat.int i :: xs.map Dat.str) := fun h => by
  injection h with _ h
  have := congrArg List.length h
  simp at this
theorem alt_clo {c : Cx K} {m : Loc} {H0 H : AH} {Q : Flow → Loc → AH → Prop} {E S S1 : Addr → Prop} {R : Addr} {k n j : Nat} {a l en f0 f1 : Addr} {ta tb tc tj : Tok} {bv : Value} {i : Int} {ps : List Value} {xs : List Str} {its : Nat → T}
    (ih : AlterAt n) (room : Room c (n + 6)) (hk : k ≤ 160) (e : EnvIs c (fScope s25) [(Str.ofString "v", c.L + 1)] c.L) (as : AS c E R k H0 H a m) (hS : ∀ b, S b → H0 b = none ∧ b ≠ c.L + 1)
    (hs : ∀ b, S1 b → S b) (sa : S a) (sl : S l) (na : ¬ S1 a) (nl : ¬ S1 l) (h1 : H a = some (.inst 153 (fClo ta l bv en))) (h2 : H l = some (.lst ps)) (h3 : Formals H (Rep 2 E H n S1) ps xs its) (h4 : Rep 2 E H n S1 (its 0) bv) (h6 : E en) (h7 : H en = some (.inst 175 (fEnv tb tc i f0 f1))) (z1 : ps.length + 2 ≤ 900)
    (hj : m.lookup (Str.ofString "draw") = some (.int (j : Int) tj))
    (q : ∀ m' t' H', XR E R k H0 H' → t' ≠ .node .clo (.int i :: xs.map Dat.str) its noA noA → Rep 0 E H' (n + 2) (Fresh H0) t' (.ref a) → Q (.ret (.ref a)) m' H') : WS c (execs (ifBody (nth 4 (fBody s25))) c.env) m H Q := by
  have xh := xrel_row E R k
  have nR : ∀ {b : Addr}, H0 b = none → b ≠ R := fun hb => nR0 as.x.r hb
  have g1 := as.cell
  have hrow := as.row
  have nE : ∀ {b : Addr}, H0 b = none → ¬ E b := fun hb y => as.hE.live _ y hb
  have a0 := (hS a sa).1
  have l0 := (hS l sl).1
  have nal : a ≠ l := fun y => by rw [y, h2] at h1; cases h1
  have nac := (hS a sa).2
  have hbv := h4.handed
  generalize hb : ifBody (nth 4 (fBody s25)) = b
  conv at hb => lhs; whnf
  subst hb
  have up : ∀ {t v}, Rep 2 E H n S1 t v → Rep 0 E H (n + 1) (fun b => H0 b = none ∧ b ≠ a ∧ H b ≠ none ∧ b ≠ l) t v := fun r => r.mono (Nat.zero_le _) (Nat.le_succ _) Ext.refl.same fun b y => ⟨(hS b (hs b y.1)).1, fun z => na (z ▸ y.1), y.2, fun z => nl (z ▸ y.1)⟩
  have mk : ∀ {H' : AH} {l' en' : Addr} {bv' : Value} {ps' : List Value} {xs' : List Str} {i' : Int} {tb tc : Tok} {f0 f1 : Addr} {its' : Nat → T}, H0 l' = none → H' a = some (.inst 153 (fClo ta l' bv' en')) → H' l' = some (.lst ps') → Formals H' (Rep 0 E H' (n + 1) (fun b => H0 b = none ∧ b ≠ a ∧ b ≠ l')) ps' xs' its' → Rep 0 E H' (n + 1) (fun b => H0 b = none ∧ b ≠ a ∧ b ≠ l') (its' 0) bv' → ((H0 en' = none ∧ a ≠ en') ∨ E en') → H' en' = some (.inst 175 (fEnv tb tc i' f0 f1)) → ps'.length ≤ 900 → Rep 0 E H' (n + 2) (Fresh H0) (.node .clo (.int i' :: xs'.map Dat.str) its' noA noA) (.ref a) := fun q0 k1 k2 k3 k4 k5 k6 z1 => show Node _ _ _ _ _ _ _ from .clo (fun b x => x.1) a0 q0 (fun x => x.2.1 rfl) (fun x => x.2.2 rfl) k1 k2 k3 k4 k5 (fun h => absurd h (by omega)) k6 z1
  have i9 : i ≠ 9 := by
    obtain ⟨_, _, i', _, _, h8, h9⟩ := (as.hE.go as.x.ext as.x.r.nE) en h6
    rw [h7] at h8
    cases h8
    exact h9
  have nea : en ≠ a := fun y => nE a0 (y ▸ h6)
  repeat wtm_at "e1"
  refine we_eqI ?_
  repeat wtm_at "e1"
  refine ite_b (fun hb => ?_) fun hb => ?_
  · repeat wtm_at "e1"
    refine mk_Env (room.mono (by omega)) fun e2 t2 f2 l2 H1 e1 he2 ke2 => ?_
    have x1 : XR E R k H H1 := ⟨as.x.r', e1.toR R, as.x.r'.ext e1⟩
    have p1 := e1 _ _ h1
    have p2 := e1 _ _ h2
    have pc := e1 _ _ g1
    have nae : a ≠ e2 := (ne_of_none he2 h1).symm
    wtm_at "e1"
    refine we_setA p1 (by kernel_rfl) (Nat.le_of_ble_eq_true rfl) ?_
    have ep : putF (Str.ofString "env") (.ref e2) (fClo ta l bv en) = fClo ta l bv e2 := by kernel_rfl
    rw [ep]
    generalize hH2 : AH.put H1 a _ = H2
    have s2 : ∀ {S : Addr → Prop}, ¬ S a → Same S E H1 H2 := fun hS => hH2 ▸ same_put p1 hS (nE a0) rfl
    have u1 := (congrFun hH2 a).symm.trans put_self
    have u2 : H2 l = _ := hH2 ▸ (put_ne nal.symm).trans p2
    have ue : H2 e2 = _ := hH2 ▸ (put_ne nae.symm).trans ke2
    have uc : H2 (c.L + 1) = _ := hH2 ▸ (put_ne (Ne.symm nac)).trans pc
    have x2 : XR E R k H0 H2 := hH2 ▸ xh.put (xh.trans as.x x1) a0
    have cv : ∀ {t v}, Rep 2 E H n S1 t v → Rep 0 E H2 (n + 1) (fun b => H0 b = none ∧ b ≠ a ∧ b ≠ l) t v := fun r => (((up r).ext e1).mono (Nat.le_refl _) (Nat.le_refl _) (s2 fun y => y.2.1 rfl) fun b y => ⟨y.1.1, y.1.2.1, y.1.2.2.2⟩)
    repeat wtm_at "e1"
    refine q _ _ _ x2 ?_ (mk l0 u1 u2 (h3.mono (fun t v r => cv r) (fun b vs hb => s2 (S := fun _ => False) id _ _ (e1 _ _ hb) (.inr (.inr rfl))) fun _ => rfl) (cv h4) (.inl ⟨as.x.ext.nn he2, nae⟩) ue (by omega))
    intro h
    injection h with _ h
    injection h with h
    injection h with h
    exact i9 h.symm
  repeat wtm_at "e1"
  refine we_eqI ?_
  repeat wtm_at "e1"
  refine ite_b (fun hb => ?_) fun hb => ?_
  · repeat wtm_at "e1"
    refine mk_Missing (room.mono (by omega)) fun a2 t2 H1 e1 ha2 ka2 => ?_
    repeat wtm_at "e1"
    refine we_newTuple (Nat.le_of_ble_eq_true rfl) fun g hg => ?_
    repeat wtm_at "e1"
    refine we_newList (Nat.le_of_ble_eq_true rfl) fun lb hlb => ?_
    generalize hHb : AH.put (AH.put H1 g _) lb _ = Hb
    have e3 : Ext H Hb := hHb ▸ (e1.new hg).put (e1.nn (none_of_put hlb).1)
    have kgb := (congrFun hHb g).symm.trans (put_old hlb put_self)
    have hmb := (congrFun hHb a2).symm.trans (put_old hlb (put_old hg ka2))
    have klb := (congrFun hHb lb).symm.trans put_self
    refine we_addL (e3 _ _ h2) klb (by simp; omega) fun l2 hl2 => ?_
    generalize hH4 : AH.put Hb l2 _ = H4
    have hlH := e3.nn hl2
    have e4 : Ext H H4 := hH4 ▸ e3.new hl2
    have kg := (congrFun hH4 g).symm.trans (put_old hl2 kgb)
    have hm := (congrFun hH4 a2).symm.trans (put_old hl2 hmb)
    have kl2 := (congrFun hH4 l2).symm.trans put_self
    have x4 : XR E R k H H4 := ⟨as.x.r', e4.toR R, as.x.r'.ext e4⟩
    have p1 := e4 _ _ h1
    have pc := e4 _ _ g1
    have nal2 : a ≠ l2 := (ne_of_none hlH h1).symm
    wtm_at "e1"
    refine we_setA p1 (by kernel_rfl) (Nat.le_of_ble_eq_true rfl) ?_
    have ep : putF (Str.ofString "formals") (.ref l2) (fClo ta l bv en) = fClo ta l2 bv en := by kernel_rfl
    rw [ep]
    generalize hH2 : AH.put H4 a _ = H2
    have s2 : ∀ {S : Addr → Prop}, ¬ S a → Same S E H4 H2 := fun hS => hH2 ▸ same_put p1 hS (nE a0) rfl
    have u1 := (congrFun hH2 a).symm.trans put_self
    have u2 : H2 l2 = _ := hH2 ▸ (put_ne nal2.symm).trans kl2
    have ue : H2 en = _ := hH2 ▸ (put_ne nea).trans (e4 _ _ h7)
    have uc : H2 (c.L + 1) = _ := hH2 ▸ (put_ne (Ne.symm nac)).trans pc
    have x2 : XR E R k H0 H2 := hH2 ▸ xh.put (xh.trans as.x x4) a0
    have ug := s2 (S := fun _ => False) id _ _ kg (.inr (.inr rfl))
    have um : H2 a2 = _ := hH2 ▸ (put_ne (ne_of_none ha2 h1)).trans hm
    have cv : ∀ {t v}, Rep 2 E H n S1 t v → Rep 0 E H2 (n + 1) (fun b => H0 b = none ∧ b ≠ a ∧ b ≠ l2) t v := fun r => (((up r).ext e4).mono (Nat.le_refl _) (Nat.le_refl _) (s2 fun y => y.2.1 rfl) fun b y => ⟨y.1.1, y.1.2.1, fun z => y.1.2.2.1 (z ▸ hlH)⟩)
    have miss : Rep 0 E H2 (n + 1) (fun b => H0 b = none ∧ b ≠ a ∧ b ≠ l2) (.node .miss [] noI noA noA) (.ref a2) := show Node _ _ _ _ _ _ _ from .miss ⟨as.x.ext.nn ha2, ne_of_none ha2 h1, fun y => by rw [y, kl2] at hm; cases hm⟩ um
    have f2 := h3.mono (R' := Rep 0 E H2 (n + 1) (fun b => H0 b = none ∧ b ≠ a ∧ b ≠ l2)) (H' := H2) (fun t v r => cv r) (fun b vs hb => s2 (S := fun _ => False) id _ _ (e4 _ _ hb) (.inr (.inr rfl))) fun _ => rfl
    repeat wtm_at "e1"
    refine q _ (.node .clo (.int i :: (xs ++ [Str.ofString "z"]).map Dat.str) (updI its (ps.length + 1) (.node .miss [] noI noA noA)) noA noA) _ x2 (fun h => by injection h with _ h; exact clo_ne h) (mk (as.x.ext.nn hlH) u1 u2 ⟨by simp [f2.1], fun p w hw => ?_, fun p hp => ?_⟩ ?_ (.inr h6) ue (by simp; omega))
    · rcases Nat.lt_trichotomy p ps.length with hp | hp | hp
      · rw [List.getElem?_append_left hp] at hw
        obtain ⟨g5, x5, t5, u5, v1, v2, v3, v4⟩ := f2.2.1 p w hw
        refine ⟨g5, x5, t5, u5, v1, v2, by rw [List.getElem?_append_left (by rw [f2.1]; exact hp)]; exact v3, ?_⟩
        unfold updI
        rw [if_neg (by omega)]
        exact v4
      · subst hp
        rw [List.getElem?_concat_length] at hw
        cases hw
        refine ⟨g, _, _, _, rfl, ug, by rw [← f2.1]; exact List.getElem?_concat_length, ?_⟩
        unfold updI
        rw [if_pos rfl]
        exact miss
      · rw [List.getElem?_eq_none (by simp; omega)] at hw
        cases hw
    · rw [List.length_append, List.length_singleton] at hp
      unfold updI
      rw [if_neg (by omega)]
      exact f2.2.2 p (by omega)
    · unfold updI
      rw [if_neg (by omega)]
      exact cv h4
  · repeat wtm_at "e1"
    refine ih (c := c) room hk h4 as.x.r' (as.hE.go as.x.ext as.x.r.nE) fun t2 w2 H1 x1 tne r1 => ?_
    have p1 := x1.ext.keep _ _ h1 (nR a0)
    have p2 := x1.ext.keep _ _ h2 (nR l0)
    have pc := x1.ext.keep _ _ g1 (nR as.c0)
    have pe := x1.ext.keep _ _ h7 fun y => as.x.r.nE (y ▸ h6)
    wtm_at "e1"
    refine we_setA p1 (by kernel_rfl) (Nat.le_of_ble_eq_true rfl) ?_
    have ep : putF (Str.ofString "body") w2 (fClo ta l bv en) = fClo ta l w2 en := by kernel_rfl
    rw [ep]
    generalize hH2 : AH.put H1 a _ = H2
    have s2 : ∀ {S : Addr → Prop}, ¬ S a → Same S E H1 H2 := fun hS => hH2 ▸ same_put p1 hS (nE a0) rfl
    have u1 := (congrFun hH2 a).symm.trans put_self
    have u2 : H2 l = _ := hH2 ▸ (put_ne nal.symm).trans p2
    have ue : H2 en = _ := hH2 ▸ (put_ne nea).trans pe
    have uc : H2 (c.L + 1) = _ := hH2 ▸ (put_ne (Ne.symm nac)).trans pc
    have x2 : XR E R k H0 H2 := hH2 ▸ xh.put (xh.trans as.x x1) a0
    have sx : Same (fun b => H0 b = none ∧ b ≠ a ∧ H b ≠ none ∧ b ≠ l) E H H1 := xh.same x1 fun b y => nR y.1
    have cv : ∀ {t v}, Rep 2 E H n S1 t v → Rep 0 E H2 (n + 1) (fun b => H0 b = none ∧ b ≠ a ∧ b ≠ l) t v := fun r => (((up r).mono (Nat.le_refl _) (Nat.le_refl _) sx fun b y => y.1).mono (Nat.le_refl _) (Nat.le_refl _) (s2 fun y => y.2.1 rfl) fun b y => ⟨y.1.1, y.1.2.1, y.1.2.2.2⟩)
    repeat wtm_at "e1"
    refine q _ (.node .clo (.int i :: xs.map Dat.str) (updI its 0 t2) noA noA) _ x2 (fun h => by injection h with _ _ h; exact updI_ne tne h) (mk l0 u1 u2 (h3.mono (fun t v r => cv r) (fun b vs hb => s2 (S := fun _ => False) id _ _ (tups sx _ _ hb) (.inr (.inr rfl))) fun p => ?_) ?_ (.inr h6) ue (by omega))
    · unfold updI; rw [if_neg (by omega)]
    · unfold updI
      rw [if_pos rfl]
      exact r1.mono (Nat.le_refl _) (Nat.le_refl _) (s2 fun y => absurd y (some_ne h1)) fun b y => ⟨as.x.ext.nn y.1, ne_of_none y.1 h1, ne_of_none y.1 h2⟩
theorem app1_ne {x : Str} : ¬ (x ++ Str.ofString "1" = x) := fun h => by
  have h1 := congrArg Str.length h
  rw [PySem.Str.length_append] at h1
  have h2 : (Str.ofString "1").length = 1 := by kernel_rfl
  omega
theorem alt_s4 {c : Cx K} {m : Loc} {H0 H : AH} {Q : Flow → Loc → AH → Prop} {E S S1 : Addr → Prop} {R : Addr} {k n j : Nat} {a d : Addr} {ta tb tj : Tok} {x : Str} {fs : List (Str × Value)} {ep : Nat} {sls : Str → T}
    (ih : AlterAt n) (room : Room c (n + 6)) (hk : k ≤ 160) (e : EnvIs c (fScope s25) [(Str.ofString "v", c.L + 1)] c.L) (as : AS c E R k H0 H a m) (hS : ∀ b, S b → H0 b = none ∧ b ≠ c.L + 1)
    (hs : ∀ b, S1 b → S b) (sa : S a) (sd : S d) (na : ¬ S1 a) (nd : ¬ S1 d) (h1 : H a = some (.inst 196 (fS4 ta tb x d))) (h2 : H d = some (.dct fs ep)) (h3 : Dic (Rep 2 E H n S1) fs sls) (z1 : fs.length + 2 ≤ 60) (hw : x.length ≤ 10 ∧ (fs = [] ∨ sls (Str.ofString "a") ≠ .no))
    (hj : m.lookup (Str.ofString "draw") = some (.int (j : Int) tj))
    (q : ∀ m' t' H', XR E R k H0 H' → t' ≠ .node .s4 [.str x] noI sls noA → Rep 0 E H' (n + 2) (Fresh H0) t' (.ref a) → Q (.ret (.ref a)) m' H') : WS c (execs (ifBody (nth 7 (fBody s25))) c.env) m H Q := by
  have xh := xrel_row E R k
  have nR : ∀ {b : Addr}, H0 b = none → b ≠ R := fun hb => nR0 as.x.r hb
  have g1 := as.cell
  have hrow := as.row
  have nE : ∀ {b : Addr}, H0 b = none → ¬ E b := fun hb y => as.hE.live _ y hb
  have a0 := (hS a sa).1
  have d0 := (hS d sd).1
  have nad : a ≠ d := fun y => by rw [y, h2] at h1; cases h1
  have nac := (hS a sa).2
  generalize hb : ifBody (nth 7 (fBody s25)) = b
  conv at hb => lhs; whnf
  subst hb
  have dd : Dic (Rep 0 E H (n + 1) (fun b => H0 b = none ∧ b ≠ a ∧ b ≠ d)) fs sls := h3.mono fun t v r => r.mono (Nat.zero_le _) (Nat.le_succ _) Ext.refl.same fun b y => ⟨(hS b (hs b y.1)).1, fun z => na (z ▸ y.1), fun z => nd (z ▸ y.1)⟩
  have mk : ∀ {H' : AH} {tb : Tok} {x' : Str} {fs' : List (Str × Value)} {ep' : Nat} {sls' : Str → T}, H' a = some (.inst 196 (fS4 ta tb x' d)) → H' d = some (.dct fs' ep') → Dic (Rep 0 E H' (n + 1) (fun b => H0 b = none ∧ b ≠ a ∧ b ≠ d)) fs' sls' → fs'.length ≤ 60 → Rep 0 E H' (n + 2) (Fresh H0) (.node .s4 [.str x'] noI sls' noA) (.ref a) := fun k1 k2 k3 z1 => show Node _ _ _ _ _ _ _ from .s4 (fun b x => x.1) a0 d0 (fun x => x.2.1 rfl) (fun x => x.2.2 rfl) k1 k2 k3 z1 (fun h => absurd h (by omega))
  have fin : ∀ {Hx : AH} {t1 : Tok} {Q' : AH → Prop}, Ext H Hx → (∀ H', XR E R k H0 H' → H' (c.L + 1) = some (.cell (some (.ref a))) → Rep 0 E H' (n + 2) (Fresh H0) (.node .s4 [.str (x ++ Str.ofString "1")] noI sls noA) (.ref a) → Q' H') → Q' (Hx.put a (.inst 196 (putF (Str.ofString "name") (.str (x ++ Str.ofString "1") t1) (fS4 ta tb x d)))) := fun {Hx t1 Q'} ex h => by
    have p1 := ex _ _ h1
    have ep : putF (Str.ofString "name") (.str (x ++ Str.ofString "1") t1) (fS4 ta tb x d) = fS4 ta t1 (x ++ Str.ofString "1") d := by kernel_rfl
    rw [ep]
    have s2 : ∀ {S : Addr → Prop}, ¬ S a → Same S E Hx (Hx.put a (.inst 196 (fS4 ta t1 (x ++ Str.ofString "1") d))) := fun hS => same_put p1 hS (nE a0) rfl
    exact h _ (xh.put (xh.trans as.x ⟨as.x.r', ex.toR R, as.x.r'.ext ex⟩) a0) ((put_ne (Ne.symm nac)).trans (ex _ _ g1)) (mk put_self ((put_ne nad.symm).trans (ex _ _ h2)) (dd.mono fun t v r => (r.ext ex).mono (Nat.le_refl _) (Nat.le_refl _) (s2 fun y => y.2.1 rfl) fun b y => y.1) (by omega))
  have tne : (.node .s4 [.str (x ++ Str.ofString "1")] noI sls noA : T) ≠ .node .s4 [.str x] noI sls noA := fun h => by
    injection h with _ h
    injection h with h
    injection h with h
    exact app1_ne h
  repeat wtm_at "e1"
  refine we_eqI ?_
  repeat wtm_at "e1"
  refine ite_b (fun hb => ?_) fun hb => ?_
  · refine ite_b (fun _ => ?_) fun hb => (nomatch hb)
    repeat wtm_at "e1"
    refine we_addS (by have : (Str.ofString "1").length = 1 := by kernel_rfl
                       omega) fun t1 => ?_
    repeat wtm_at "e1"
    exact fin (Q' := fun H' => Q (.ret (.ref a)) m H') Ext.refl fun H' x' pc r => q _ _ _ x' tne r
  repeat wtm_at "e1"
  refine we_dictNil fun ep1 d1 hd1 => ?_
  have e1 : Ext H (H.put d1 (.dct [] ep1)) := Ext.refl.new hd1
  refine we_eqDnil (put_old hd1 h2) h3.nodup put_self room.line ?_
  generalize H.put d1 (.dct [] ep1) = H1 at e1 ⊢
  have pc := e1 _ _ g1
  have p1 := e1 _ _ h1
  have p2 := e1 _ _ h2
  repeat wtm_at "e1"
  refine ite_b (fun hb => ?_) fun hb => ?_
  · refine ite_b (fun _ => ?_) fun hb => (nomatch hb)
    repeat wtm_at "e1"
    refine we_addS (by have : (Str.ofString "1").length = 1 := by kernel_rfl
                       omega) fun t1 => ?_
    repeat wtm_at "e1"
    exact fin (Q' := fun H' => Q (.ret (.ref a)) m H') e1 fun H' x' pc r => q _ _ _ x' tne r
  wtm_at "e1"
  refine ite_b (fun hb => (nomatch hb)) fun _ => ?_
  have hn : sls (Str.ofString "a") ≠ .no := hw.2.resolve_left fun h => by rw [h] at hb; cases hb
  obtain ⟨u, hu⟩ : ∃ u, fs.lookup (Str.ofString "a") = some u := by
    cases hx : fs.lookup (Str.ofString "a") with
    | some u => exact ⟨u, rfl⟩
    | none => exact (hn (h3.none _ hx)).elim
  have x1 : XR E R k H H1 := ⟨as.x.r', e1.toR R, as.x.r'.ext e1⟩
  repeat wtm_at "e1"
  refine we_itemD p2 h3.nodup hu ?_ rfl
  repeat wtm_at "e1"
  refine ih (c := c) room hk ((h3.some _ _ hu).ext e1) x1.r' ((as.hE.go as.x.ext as.x.r.nE).go (e1.toR R) as.x.r.nE) fun t2 w2 H2 x2 tne r2 => ?_
  have u1 := x2.ext.keep _ _ p1 (nR a0)
  have u2 := x2.ext.keep _ _ p2 (nR d0)
  have uc := x2.ext.keep _ _ pc (nR as.c0)
  repeat wtm_at "e1"
  refine we_setD u2 h3.nodup (by omega) fun ep' => ?_
  generalize hH3 : AH.put H2 d _ = H3
  have s3 : ∀ {S : Addr → Prop}, ¬ S d → Same S E H2 H3 := fun hS => hH3 ▸ same_put u2 hS (nE d0) rfl
  have v1 : H3 a = _ := hH3 ▸ (put_ne nad).trans u1
  have v2 := (congrFun hH3 d).symm.trans put_self
  have vc : H3 (c.L + 1) = _ := hH3 ▸ (put_ne (Ne.symm (hS d sd).2)).trans uc
  have x3 : XR E R k H0 H3 := hH3 ▸ xh.put (xh.trans as.x (xh.trans x1 x2)) d0
  have d3 : Dic (Rep 0 E H3 (n + 1) (fun b => H0 b = none ∧ b ≠ a ∧ b ≠ d)) fs sls := dd.mono fun t v r => ((r.ext e1).mono (Nat.le_refl _) (Nat.le_refl _) (xh.same x2 fun b y => nR y.1) fun b y => y.1).mono (Nat.le_refl _) (Nat.le_refl _) (s3 fun y => y.2.2 rfl) fun b y => y.1
  repeat wtm_at "e1"
  refine q _ _ _ x3 ?_ (mk v1 v2 (d3.put (x := Str.ofString "a") (u := w2) (t := t2) (r2.mono (Nat.le_refl _) (Nat.le_refl _) (s3 fun y => absurd y (some_ne p2)) fun b y => ⟨(xh.trans as.x x1).ext.nn y.1, ne_of_none y.1 p1, ne_of_none y.1 p2⟩)) (Nat.le_trans (stored_length_le ..) (by omega)))
  intro h
  injection h with _ _ _ h
  exact updA_ne tne h
/-- a vector's items -/
noncomputable def VIt (w : Nat) (E : Addr → Prop) (n : Nat) (kd : Kd) (H : AH) (S : Addr → Prop) (vs : List Value) (ds : List Dat) (its : Nat → T) : Prop := (kd.isLeaf = true ∧ LitsAre H vs ds ∧ its = noI) ∨ (kd.isList = true ∧ ds = [] ∧ Kids (Rep w E H n S) vs its)
/-- a vector's attributes -/
noncomputable def VAt (w : Nat) (E : Addr → Prop) (n : Nat) (H0 H : AH) (S : Addr → Prop) (av : Value) (ats : Str → T) : Prop := (av = .none ∧ ats = noA) ∨ ∃ d fs ep, av = .ref d ∧ H0 d = none ∧ H d = some (.dct fs ep) ∧ Dic (Rep w E H n S) fs ats ∧ fs.length + w ≤ 60 ∧ (2 ≤ w → ats (Str.ofString "unit") ≠ .no)
section
variable {w w' n n' : Nat} {E S S' : Addr → Prop} {H0 H H' : AH} {kd : Kd} {vs : List Value} {ds : List Dat} {its : Nat → T} {av : Value} {ats : Str → T}
theorem VIt.go (h : VIt w E n kd H S vs ds its) (hw : w' ≤ w) (hn : n ≤ n') (hs : Same S E H H') (hS : ∀ b, Live H S b → S' b) : VIt w' E n' kd H' S' vs ds its :=
  h.imp (fun x => ⟨x.1, x.2.1.mono (tups hs), x.2.2⟩) fun x => ⟨x.1, x.2.1, x.2.2.mono fun t v r => r.mono hw hn hs hS⟩
theorem VAt.go (h : VAt w E n H0 H S av ats) (hw : w' ≤ w) (hn : n ≤ n') (hs : Same S E H H') (hS : ∀ b, Live H S b → S' b) (hd : ∀ d o, av = .ref d → H d = some o → H' d = some o) : VAt w' E n' H0 H' S' av ats := by
  rcases h with h | ⟨d, fs, ep, h1, h2, h3, h4, h5, h6⟩
  · exact .inl h
  · exact .inr ⟨d, fs, ep, h1, h2, hd _ _ h1 h3, h4.mono fun t v r => r.mono hw hn hs hS, by omega, fun x => h6 (by omega)⟩
theorem VAt.attrs (h : VAt 0 E n H0 H S av ats) (hS : ∀ b, S b → av ≠ .ref b) : Attrs 0 H (Rep 0 E H n) (Fresh H0) S av ats := by
  rcases h with ⟨rfl, rfl⟩ | ⟨d, fs, ep, rfl, h2, h3, h4, h5, h6⟩
  · exact .none
  · exact .some h3 h2 (fun x => hS d x rfl) h4 h5 (fun h => absurd h (by omega)) fun h => absurd h (by omega)
theorem mkV {a l : Addr} {ta : Tok} (a0 : H0 a = none) (l0 : H0 l = none) (k1 : H a = some (.inst 88 (fVec kd ta l av))) (k2 : H l = some (.lst vs)) (hz : vs.length ≤ 900) (hS : ∀ b, S b → H0 b = none ∧ b ≠ a ∧ b ≠ l ∧ av ≠ .ref b) (hi : VIt 0 E n kd H S vs ds its) (ha : VAt 0 E n H0 H S av ats) : Rep 0 E H (n + 1) (Fresh H0) (.node kd ds its noA ats) (.ref a) := by
  have hat := ha.attrs fun b hb => (hS b hb).2.2.2
  rcases hi with ⟨h1, h2, rfl⟩ | ⟨h1, rfl, h2⟩
  · exact show Node _ _ _ _ _ _ _ from .leaf h1 (fun b x => (hS b x).1) a0 l0 (fun x => (hS a x).2.1 rfl) (fun x => (hS l x).2.2.1 rfl) k1 k2 h2 hz hat
  · exact show Node _ _ _ _ _ _ _ from .list h1 (fun b x => (hS b x).1) a0 l0 (fun x => (hS a x).2.1 rfl) (fun x => (hS l x).2.2.1 rfl) k1 k2 h2 hz hat
end
theorem LitsAre.unsnoc {H : AH} {ds : List Dat} {w : Value} : ∀ {vs : List Value}, LitsAre H (vs ++ [w]) ds → ∃ ds' d, ds = ds' ++ [d] ∧ LitsAre H vs ds' ∧ LitIs H w d
  | [], h => by
    cases h with
    | cons h1 h2 => cases h2; exact ⟨[], _, rfl, .nil, h1⟩
  | v :: vs, h => by
    cases h with
    | cons h1 h2 =>
      obtain ⟨ds', d, rfl, h3, h4⟩ := LitsAre.unsnoc h2
      exact ⟨_ :: ds', d, rfl, .cons h1 h3, h4⟩
/-- a vector that is to be altered -/
structure VC (c : Cx K) (E : Addr → Prop) (R : Addr) (k n : Nat) (H0 H : AH) (a l : Addr) (kd : Kd) (ta : Tok) (av : Value) (vs : List Value) (ds : List Dat) (its : Nat → T) (ats : Str → T) (m : Loc) (j : Nat) (tj : Tok) : Prop where
  as : AS c E R k H0 H a m
  h1 : H a = some (.inst 88 (fVec kd ta l av))
  h2 : H l = some (.lst vs)
  it : VIt 2 E n kd H (fun b => H0 b = none ∧ b ≠ a ∧ b ≠ l ∧ av ≠ .ref b) vs ds its
  at_ : VAt 2 E n H0 H (fun b => H0 b = none ∧ b ≠ a ∧ b ≠ l ∧ av ≠ .ref b) av ats
  a0 : H0 a = none
  l0 : H0 l = none
  nac : a ≠ c.L + 1
  nlc : l ≠ c.L + 1
  z : vs.length + 2 ≤ 900
  draw : m.lookup (Str.ofString "draw") = some (.int (j : Int) tj)
theorem listed2 (k : Kd) : [Str.ofString "list", Str.ofString "expression"].any (· == k.str) = k.isList := by cases k <;> kernel_rfl
theorem strs2 {x y : Str} {t t' : Tok} : StrsAre [.str x t, .str y t'] [x, y] := .cons _ _ (.cons _ _ .nil)
noncomputable def vecB : Stmt := nth 0 (ifBody (nth 3 (fBody s25)))
section
variable {c : Cx K} {m : Loc} {H0 H : AH} {Q : Flow → Loc → AH → Prop} {E : Addr → Prop} {R : Addr} {k n j : Nat} {a l : Addr} {kd : Kd} {ta tj : Tok} {av : Value} {vs : List Value} {ds : List Dat} {its : Nat → T} {ats : Str → T}
theorem VC.nal (v : VC c E R k n H0 H a l kd ta av vs ds its ats m j tj) : a ≠ l := fun y => by
  have := v.h1
  rw [y, v.h2] at this
  cases this
theorem VC.ext {H' : AH} (v : VC c E R k n H0 H a l kd ta av vs ds its ats m j tj) (e : Ext H H') : VC c E R k n H0 H' a l kd ta av vs ds its ats m j tj :=
  ⟨⟨(xrel_row E R k).trans v.as.x ⟨v.as.x.r', e.toR R, v.as.x.r'.ext e⟩, e _ _ v.as.cell, v.as.c0, v.as.row, v.as.hE⟩, e _ _ v.h1, e _ _ v.h2, v.it.go (Nat.le_refl _) (Nat.le_refl _) e.same fun _ x => x.1, v.at_.go (Nat.le_refl _) (Nat.le_refl _) e.same (fun _ x => x.1) fun d o _ h => e _ _ h, v.a0, v.l0, v.nac, v.nlc, v.z, v.draw⟩
theorem alt_vtail (room : Room c (n + 6)) (e : EnvIs c (fScope s25) [(Str.ofString "v", c.L + 1)] c.L) (vc : VC c E R k n H0 H a l kd ta av vs ds its ats m j tj)
    (q : ∀ t' H', XR E R k H0 H' → H' (c.L + 1) = some (.cell (some (.ref a))) → t' ≠ .node kd ds its noA ats → Rep 0 E H' (n + 2) (Fresh H0) t' (.ref a) → Q .next m H') : WS c (exec (elifN 3 vecB) c.env) m H Q := by
  have xh := xrel_row E R k
  have nE : ∀ {b : Addr}, H0 b = none → ¬ E b := fun hb y => vc.as.hE.live _ y hb
  have g1 := vc.as.cell
  have h1 := vc.h1
  have h2 := vc.h2
  have hd := vc.draw
  generalize hb : elifN 3 vecB = b
  conv at hb => lhs; whnf
  subst hb
  repeat wtm_at "e1"
  refine we_newList (Nat.zero_le _) fun x hx => ?_
  have eX : Ext H (H.put x (.lst [])) := Ext.refl.new hx
  refine we_neNil (eX _ _ h2) put_self room.line ?_
  generalize H.put x (.lst []) = H1 at eX ⊢
  replace vc := vc.ext eX
  replace g1 := vc.as.cell
  replace h1 := vc.h1
  replace h2 := vc.h2
  clear eX hx
  -- the end of each way: the list l turned
  have fin : ∀ {H2 : AH} {vs' : List Value} {ds' : List Dat} {its' : Nat → T}, Ext H1 H2 → vs'.length ≤ 900 → (its' ≠ its ∨ ds' ≠ ds) →
      (VIt 0 E (n + 1) kd (H2.put l (.lst vs')) (fun b => H0 b = none ∧ b ≠ a ∧ b ≠ l ∧ av ≠ .ref b) vs' ds' its') → Q .next m (H2.put l (.lst vs')) := fun {H2 vs' ds' its'} e2 hz hne hi => by
    have p2 := e2 _ _ h2
    have s3 : ∀ {S : Addr → Prop}, ¬ S l → Same S E H2 (H2.put l (.lst vs')) := fun hS => same_put p2 hS (nE vc.l0) rfl
    have x3 : XR E R k H0 (H2.put l (.lst vs')) := xh.put (xh.trans vc.as.x ⟨vc.as.x.r', e2.toR R, vc.as.x.r'.ext e2⟩) vc.l0
    refine q (.node kd ds' its' noA ats) _ x3 ((put_ne (Ne.symm vc.nlc)).trans (e2 _ _ g1)) (fun h => ?_) (mkV vc.a0 vc.l0 ((put_ne vc.nal).trans (e2 _ _ h1)) put_self hz (fun b hb => hb) hi (vc.at_.go (Nat.zero_le _) (Nat.le_succ _) (same_trans e2.same (s3 fun y => y.2.2.1 rfl)) (fun b y => y.1) fun d o hd ho => ?_))
    · injection h with _ h h'
      exact hne.elim (fun g => g h') fun g => g h
    · rw [put_ne]; exact e2 _ _ ho
      rintro rfl
      rcases vc.at_ with ⟨h, _⟩ | ⟨d', fs, ep, h, _, h3, _⟩
      · rw [h] at hd; cases hd
      · rw [h] at hd; cases hd; rw [h2] at h3; cases h3
  have z1 := vc.z
  have sl : ∀ {H2 : AH} {vs' : List Value}, Ext H1 H2 → Same (fun b => H0 b = none ∧ b ≠ a ∧ b ≠ l ∧ av ≠ .ref b) E H1 (H2.put l (.lst vs')) := fun e2 => same_trans e2.same (same_put (e2 _ _ h2) (fun y => y.2.2.1 rfl) (nE vc.l0) rfl)
  have app : WS c (execs (ifElse (elifN 3 vecB)) c.env) m H1 Q := by
    generalize hb : ifElse (elifN 3 vecB) = b
    conv at hb => lhs; whnf
    subst hb
    repeat wtm_at "e1"
    refine we_mAppend h2 ?_
    repeat wtm_at "e1"
    refine we_newTuple (Nat.le_of_ble_eq_true rfl) fun tp htp => ?_
    refine we_inT put_self strs2 ?_
    rw [listed2]
    generalize hH2 : AH.put H1 tp _ = H2
    have e2 : Ext H1 H2 := hH2 ▸ Ext.refl.new htp
    clear hH2 htp
    have p2 := e2 _ _ h2
    repeat wtm_at "e1"
    refine ite_b (fun hb => ?_) fun hb => ?_
    · repeat wtm_at "e1"
      refine mk_Null (room.mono (by omega)) fun a2 t2 H3 e3 ha2 ka2 => ?_
      have e23 := e2.trans e3
      repeat wtm_at "e1"
      refine we_append (e23 _ _ h2) (by omega) ?_
      repeat wtm_at "e1"
      rcases vc.it with ⟨hk, _⟩ | ⟨hk, rfl, hkids⟩
      · exact (nomatch hb.symm.trans (Kd.leafV hk).2.2)
      have ha1 := e2.nn ha2
      have nul : Rep 0 E (H3.put l (.lst (vs ++ [.ref a2]))) (n + 1) (fun b => H0 b = none ∧ b ≠ a ∧ b ≠ l ∧ av ≠ .ref b) (.node .null [] noI noA noA) (.ref a2) := show Node _ _ _ _ _ _ _ from .null ⟨vc.as.x.ext.nn ha1, ne_of_none ha1 h1, ne_of_none ha1 h2, fun y => by
        rcases vc.at_ with ⟨h, _⟩ | ⟨d', fs, ep, h, _, h3, _⟩
        · rw [h] at y; cases y
        · rw [h] at y; cases y; rw [ha1] at h3; cases h3⟩ ((put_ne (ne_of_none ha1 h2)).trans ka2)
      refine fin e23 (by simp; omega) (.inl (updI_ne (p := vs.length) (t := .node .null [] noI noA noA) ?_)) (.inr ⟨hk, rfl, Kids.snocL (fun i v hv => (hkids.1 i v hv).mono (Nat.zero_le _) (Nat.le_succ _) (sl e23) fun b y => y.1) (fun i hi => hkids.2 i (by omega)) nul⟩)
      rw [hkids.2 _ (Nat.le_refl _)]
      exact fun h => nomatch h
    · repeat wtm_at "e1"
      refine we_append p2 (by omega) ?_
      repeat wtm_at "e1"
      rcases vc.it with ⟨hk, hlits, rfl⟩ | ⟨hk, _⟩
      · exact fin e2 (by simp; omega) (.inr lit_ne) (.inl ⟨hk, (hlits.mono (tups (sl e2))).snoc .none, rfl⟩)
      · exact (nomatch hb.symm.trans hk)
  repeat wtm_at "e1"
  cases hem : vs.isEmpty with
  | true =>
    refine ite_b (fun hb => (nomatch hb)) fun _ => ?_
    refine ite_b (fun hb => (nomatch hb)) fun _ => ?_
    exact app
  | false =>
    refine ite_b (fun _ => ?_) fun hb => (nomatch hb)
    repeat wtm_at "e1"
    refine we_eqS ?_
    repeat wtm_at "e1"
    refine ite_b (fun hb => ?_) fun hb => ?_
    · obtain rfl := (kd_beq kd .dbl rfl).mp hb
      wtm_at "e1"
      refine ite_b (fun _ => ?_) fun hb => (nomatch hb)
      have hne : vs ≠ [] := fun y => by rw [y] at hem; cases hem
      obtain ⟨vs', w, rfl⟩ : ∃ vs' w, vs = vs' ++ [w] := ⟨vs.dropLast, vs.getLast hne, (List.dropLast_concat_getLast hne).symm⟩
      rcases vc.it with ⟨hk, hlits, rfl⟩ | ⟨hk, _⟩
      · obtain ⟨ds', d, rfl, hds', hd'⟩ := hlits.unsnoc
        repeat wtm_at "e1"
        refine we_negI fun tn => ?_
        refine we_itemBack h2 ?_ rfl
        repeat wtm_at "e1"
        refine we_isNone ?_
        repeat wtm_at "e1"
        refine ite_b (fun hw => ?_) fun hw => ?_
        · have hw' : w = .none := by rwa [beq_iff_eq] at hw
          subst hw'
          cases hd'
          repeat wtm_at "e1"
          refine we_newTuple (Nat.le_of_ble_eq_true rfl) fun g hg => ?_
          generalize hH2 : AH.put H1 g _ = H2
          have e2 : Ext H1 H2 := hH2 ▸ Ext.refl.new hg
          have kg := (congrFun hH2 g).symm.trans put_self
          have g12 := e2 _ _ g1
          have h12 := e2 _ _ h1
          repeat wtm_at "e1"
          refine we_negI fun tn => ?_
          refine we_setBack (e2 _ _ h2) ?_
          repeat wtm_at "e1"
          exact fin e2 (by simp at z1 ⊢; omega) (.inr fun h => by have := List.append_cancel_left h; cases this) (.inl ⟨hk, (hds'.mono (tups (sl e2))).snoc (.pair ((put_ne (ne_of_none hg h2)).trans kg)), rfl⟩)
        · repeat wtm_at "e1"
          refine we_negI fun tn => ?_
          refine we_setBack h2 ?_
          repeat wtm_at "e1"
          refine fin Ext.refl (by simp at z1 ⊢; omega) (.inr fun h => ?_) (.inl ⟨hk, (hds'.mono (tups (sl Ext.refl))).snoc .none, rfl⟩)
          have := List.append_cancel_left h
          injection this with h
          subst h
          cases hd'
          cases hw
      · cases hk
    · refine ite_b (fun hb => (nomatch hb)) fun _ => ?_
      exact app
end
section
variable {c : Cx K} {m : Loc} {H0 H : AH} {Q : Flow → Loc → AH → Prop} {E : Addr → Prop} {R : Addr} {k n j : Nat} {a l : Addr} {kd : Kd} {ta tj : Tok} {av : Value} {vs : List Value} {ds : List Dat} {its : Nat → T} {ats : Str → T}
theorem VC.nd (v : VC c E R k n H0 H a l kd ta av vs ds its ats m j tj) {d : Addr} {o : AO} (hd : av = .ref d) (ho : H d = some o) : d ≠ a ∧ d ≠ l ∧ d ≠ c.L + 1 := by
  have h1 := v.h1
  have h2 := v.h2
  have h3 := v.as.cell
  rcases v.at_ with ⟨h, _⟩ | ⟨d', fs, ep, h, _, h4, _⟩
  · rw [h] at hd; cases hd
  · rw [h] at hd; cases hd
    exact ⟨fun y => (by rw [y, h1] at h4; cases h4), fun y => (by rw [y, h2] at h4; cases h4), fun y => (by rw [y, h3] at h4; cases h4)⟩
theorem VC.d0 (v : VC c E R k n H0 H a l kd ta av vs ds its ats m j tj) {d : Addr} (hd : av = .ref d) : H0 d = none := by
  rcases v.at_ with ⟨h, _⟩ | ⟨d', fs, ep, h, h4, _⟩
  · rw [h] at hd; cases hd
  · rw [h] at hd; cases hd; exact h4
theorem alt_v2 (ih : AlterAt n) (room : Room c (n + 6)) (hk : k ≤ 160) (e : EnvIs c (fScope s25) [(Str.ofString "v", c.L + 1)] c.L) (vc : VC c E R k n H0 H a l kd ta av vs ds its ats m j tj)
    (q : ∀ t' H', XR E R k H0 H' → H' (c.L + 1) = some (.cell (some (.ref a))) → t' ≠ .node kd ds its noA ats → Rep 0 E H' (n + 2) (Fresh H0) t' (.ref a) → Q .next m H') : WS c (exec (elifN 2 vecB) c.env) m H Q := by
  have xh := xrel_row E R k
  have nE : ∀ {b : Addr}, H0 b = none → ¬ E b := fun hb y => vc.as.hE.live _ y hb
  have nR : ∀ {b : Addr}, H0 b = none → b ≠ R := fun hb => nR0 vc.as.x.r hb
  have g1 := vc.as.cell
  have h1 := vc.h1
  have h2 := vc.h2
  have hd := vc.draw
  have hrow := vc.as.row
  have tail : ∀ {H' : AH}, Ext H H' → WS c (execs (ifElse (elifN 2 vecB)) c.env) m H' Q := fun x => ws_cons (WS.mono (alt_vtail (Q := Q) room e (vc.ext x) q) fun f m' H' h => by
    cases f with
    | next => exact ws_nil h
    | _ => exact h)
  generalize hb : elifN 2 vecB = b
  conv at hb => lhs; whnf
  subst hb
  repeat wtm_at "e1"
  refine we_eqI ?_
  repeat wtm_at "e1"
  refine ite_b (fun hb => ?_) fun hb => ?_
  · repeat wtm_at "e1"
    refine we_newTuple (Nat.le_of_ble_eq_true rfl) fun tp htp => ?_
    refine we_inT put_self strs2 ?_
    rw [listed2]
    generalize hH2 : AH.put H tp _ = H2
    have e2 : Ext H H2 := hH2 ▸ Ext.refl.new htp
    clear hH2 htp
    have p2 := e2 _ _ h2
    have p1 := e2 _ _ h1
    have pc := e2 _ _ g1
    repeat wtm_at "e1"
    refine ite_b (fun hlk => ?_) fun hlk => ?_
    · repeat wtm_at "e1"
      refine we_newList (Nat.zero_le _) fun x hx => ?_
      have e3 : Ext H (H2.put x (.lst [])) := e2.new hx
      refine we_neNil (put_old hx p2) put_self room.line ?_
      generalize H2.put x (.lst []) = H3 at e3 ⊢
      repeat wtm_at "e1"
      cases hem : vs.isEmpty with
      | true =>
        refine ite_b (fun hb => (nomatch hb)) fun _ => ?_
        refine ite_b (fun hb => (nomatch hb)) fun _ => ?_
        exact tail e3
      | false =>
        refine ite_b (fun _ => ?_) fun hb => (nomatch hb)
        repeat wtm_at "e1"
        refine ite_b (fun _ => ?_) fun hb => (nomatch hb)
        obtain ⟨w, vs', rfl⟩ : ∃ w vs', vs = w :: vs' := by cases vs with
          | nil => cases hem
          | cons w vs' => exact ⟨w, vs', rfl⟩
        have vc3 := vc.ext e3
        have u1 := vc3.h1
        have u2 := vc3.h2
        have uc := vc3.as.cell
        rcases vc3.it with ⟨hkl, _⟩ | ⟨hkl, rfl, hkids⟩
        · exact (nomatch hlk.symm.trans (Kd.leafV hkl).2.2)
        repeat wtm_at "e1"
        refine we_itemL (j := 0) u2 rfl rfl (by have := vc.z; omega) ?_ rfl
        repeat wtm_at "e1"
        refine ih (c := c) room hk (hkids.1 0 w rfl) vc3.as.x.r' (vc3.as.hE.go vc3.as.x.ext vc3.as.x.r.nE) fun t2 w2 H4 x4 tne r4 => ?_
        have v1 := x4.ext.keep _ _ u1 (nR vc.a0)
        have v2 := x4.ext.keep _ _ u2 (nR vc.l0)
        have vcc := x4.ext.keep _ _ uc (nR vc.as.c0)
        repeat wtm_at "e1"
        refine we_setL (j := 0) v2 rfl (Nat.zero_lt_succ _) (by have := vc.z; omega) ?_
        generalize hH5 : AH.put H4 l _ = H5
        have s5 : ∀ {S : Addr → Prop}, ¬ S l → Same S E H4 H5 := fun hS => hH5 ▸ same_put v2 hS (nE vc.l0) rfl
        have y1 : H5 a = _ := hH5 ▸ (put_ne vc.nal).trans v1
        have y2 := (congrFun hH5 l).symm.trans put_self
        have yc : H5 (c.L + 1) = _ := hH5 ▸ (put_ne (Ne.symm vc.nlc)).trans vcc
        have x5 : XR E R k H0 H5 := hH5 ▸ xh.put (xh.trans vc3.as.x x4) vc.l0
        have sm : Same (fun b => H0 b = none ∧ b ≠ a ∧ b ≠ l ∧ av ≠ .ref b) E H3 H5 := same_trans (xh.same x4 fun b y => nR y.1) (s5 fun y => y.2.2.1 rfl)
        have sub : ∀ b, Fresh H3 b → (H0 b = none ∧ b ≠ a ∧ b ≠ l ∧ av ≠ .ref b) := fun b y => ⟨vc3.as.x.ext.nn y, ne_of_none y u1, ne_of_none y u2, fun z => by
          rcases vc3.at_ with ⟨h, _⟩ | ⟨d', fs, ep, h, _, h4, _⟩
          · rw [h] at z; cases z
          · rw [h] at z; cases z; exact absurd y (some_ne h4)⟩
        have kids5 := Kids.set0 (R := Rep 0 E H5 (n + 1) (fun b => H0 b = none ∧ b ≠ a ∧ b ≠ l ∧ av ≠ .ref b)) (hkids.mono fun t v r => r.mono (Nat.zero_le _) (Nat.le_succ _) sm fun b y => y.1) (t := t2) (v := w2) (r4.mono (Nat.le_refl _) (Nat.le_refl _) (s5 fun y => absurd y (some_ne u2)) fun b y => sub b y.1)
        repeat wtm_at "e1"
        refine q _ _ x5 yc (fun h => ?_) (mkV (ds := []) vc.a0 vc.l0 y1 y2 (by have := vc.z; simp at this ⊢; omega) (fun b hb => hb) (.inr ⟨hkl, rfl, kids5⟩) (vc3.at_.go (Nat.zero_le _) (Nat.le_succ _) sm (fun b y => y.1) fun d o hd ho => ?_))
        · injection h with _ _ h
          exact updI_ne tne h
        · rw [← hH5, put_ne (vc3.nd hd ho).2.1]
          exact x4.ext.keep _ _ ho (nR (vc3.d0 hd))
    · refine ite_b (fun hb => (nomatch hb)) fun _ => ?_
      exact tail e2
  · refine ite_b (fun hb => (nomatch hb)) fun _ => ?_
    exact tail Ext.refl
end
section
variable {c : Cx K} {m : Loc} {H0 H : AH} {Q : Flow → Loc → AH → Prop} {E : Addr → Prop} {R : Addr} {k n j : Nat} {a l : Addr} {kd : Kd} {ta tj : Tok} {av : Value} {vs : List Value} {ds : List Dat} {its : Nat → T} {ats : Str → T}
theorem alt_v1 (ih : AlterAt n) (room : Room c (n + 6)) (hk : k ≤ 160) (e : EnvIs c (fScope s25) [(Str.ofString "v", c.L + 1)] c.L) (vc : VC c E R k n H0 H a l kd ta av vs ds its ats m j tj)
    (q : ∀ t' H', XR E R k H0 H' → H' (c.L + 1) = some (.cell (some (.ref a))) → t' ≠ .node kd ds its noA ats → Rep 0 E H' (n + 2) (Fresh H0) t' (.ref a) → Q .next m H') : WS c (exec (elifN 1 vecB) c.env) m H Q := by
  have xh := xrel_row E R k
  have nE : ∀ {b : Addr}, H0 b = none → ¬ E b := fun hb y => vc.as.hE.live _ y hb
  have g1 := vc.as.cell
  have h1 := vc.h1
  have h2 := vc.h2
  have hd := vc.draw
  have tail : ∀ {H' : AH}, Ext H H' → WS c (execs (ifElse (elifN 1 vecB)) c.env) m H' Q := fun x => ws_cons (WS.mono (alt_v2 (Q := Q) ih room hk e (vc.ext x) q) fun f m' H' h => by
    cases f with
    | next => exact ws_nil h
    | _ => exact h)
  have fin : ∀ {H2 : AH} {d : Addr} {fs' : List (Str × Value)} {ep' : Nat} {ats' : Str → T}, Ext H H2 → H d = none → H2 d = some (.dct fs' ep') → Dic (Rep 0 E H2 (n + 1) (fun b => H0 b = none ∧ b ≠ a ∧ b ≠ l ∧ Value.ref d ≠ .ref b)) fs' ats' → fs'.length ≤ 60 → ats' ≠ ats → Q .next m (H2.put a (.inst 88 (putF (Str.ofString "attrs") (.ref d) (fVec kd ta l av)))) := fun {H2 d fs' ep' ats'} e2 hd hd2 hD hz hne => by
    have p1 := e2 _ _ h1
    have ep : putF (Str.ofString "attrs") (.ref d) (fVec kd ta l av) = fVec kd ta l (.ref d) := by kernel_rfl
    rw [ep]
    have nda : d ≠ a := ne_of_none hd h1
    have d0 := vc.as.x.ext.nn hd
    have s3 : ∀ {S : Addr → Prop}, ¬ S a → Same S E H2 (H2.put a (.inst 88 (fVec kd ta l (.ref d)))) := fun hS => same_put p1 hS (nE vc.a0) rfl
    refine q (.node kd ds its noA ats') _ (xh.put (xh.trans vc.as.x ⟨vc.as.x.r', e2.toR R, vc.as.x.r'.ext e2⟩) vc.a0) ((put_ne (Ne.symm vc.nac)).trans (e2 _ _ g1)) (fun h => ?_) (mkV vc.a0 vc.l0 put_self ((put_ne vc.nal.symm).trans (e2 _ _ h2)) (by have := vc.z; omega) (fun b hb => hb) (vc.it.go (Nat.zero_le _) (Nat.le_succ _) (same_trans e2.same (s3 fun y => y.2.1 rfl)) fun b y => ⟨y.1.1, y.1.2.1, y.1.2.2.1, fun z => y.2 (by cases z; exact hd)⟩) (.inr ⟨d, fs', ep', rfl, d0, (put_ne nda).trans hd2, hD.mono fun t v r => r.mono (Nat.le_refl _) (Nat.le_refl _) (s3 fun y => y.2.1 rfl) fun b y => y.1, by omega, fun h => absurd h (by omega)⟩))
    injection h with _ _ _ _ h
    exact hne h
  generalize hb : elifN 1 vecB = b
  conv at hb => lhs; whnf
  subst hb
  repeat wtm_at "e1"
  refine we_eqI ?_
  repeat wtm_at "e1"
  refine ite_b (fun hb => ?_) fun hb => ?_
  · rcases vc.at_ with ⟨rfl, rfl⟩ | ⟨dA, fA, epA, rfl, hdA0, hdA, hDA, hzA, huA⟩
    · repeat wtm_at "e1"
      refine we_isNone ?_
      repeat wtm_at "e1"
      refine ite_b (fun _ => ?_) fun hb => (nomatch hb)
      refine we_dictMade (by kernel_rfl) (by kernel_rfl) (by kernel_rfl) (fun x => nomatch x) (Nat.le_of_ble_eq_true rfl) fun d hdn => ?_
      repeat wtm_at "e1"
      refine mk_Null (room.mono (by omega)) fun a2 t2 H2 e2 ha2 ka2 => ?_
      have kd2 := e2 _ _ (put_self (H := H) (a := d) (o := .dct [] 0))
      have e02 : Ext H H2 := (Ext.refl.new hdn).trans e2
      repeat wtm_at "e1"
      refine ⟨_, .cons .nil, kd2, fun ep => ?_⟩
      have em : merged [] [(Str.ofString "other", Value.ref a2)] = [(Str.ofString "other", Value.ref a2)] := by kernel_rfl
      rw [em]
      have nda : a2 ≠ d := (none_of_put ha2).2
      have ha2H := (none_of_put ha2).1
      generalize hH3 : AH.put H2 d _ = H3
      have e3 : Ext H H3 := hH3 ▸ e02.put hdn
      have kd3 := (congrFun hH3 d).symm.trans put_self
      have ka3 := (congrFun hH3 a2).symm.trans ((put_ne nda).trans ka2)
      have u1 := e3 _ _ h1
      have uc := e3 _ _ g1
      wtm_at "nm"
      refine we_setA u1 (by kernel_rfl) (Nat.le_of_ble_eq_true rfl) ?_
      repeat wtm_at "e1"
      refine fin e3 hdn kd3 (Dic.cons (t := .node .null [] noI noA noA) Dic.nil rfl (show Node _ _ _ _ _ _ _ from .null ⟨vc.as.x.ext.nn ha2H, ne_of_none ha2H h1, ne_of_none ha2H h2, fun y => nda (by cases y; rfl)⟩ ka3)) (Nat.le_of_ble_eq_true rfl) fun h => ?_
      have := congrFun h (Str.ofString "other")
      rw [if_pos rfl] at this
      cases this
    · repeat wtm_at "e1"
      refine we_isNone ?_
      repeat wtm_at "e1"
      refine ite_b (fun hb => (nomatch hb)) fun _ => ?_
      refine we_dictComp (cl := [(Str.ofString "v", c.L + 1)]) ⟨e, by kernel_rfl, by kernel_rfl, rfl, fun _ => rfl⟩ (by kernel_rfl) ?_
      repeat wtm_at "e1"
      refine we_iterD hdA hDA.nodup fun it hit => ?_
      refine ⟨it, dA, fA, epA, rfl, by rw [put_self]; rfl, hDA.nodup, fun acc ea D hacc hD hne => ?_⟩
      have hacc0 := (none_of_put hacc).1
      have hD0 := (none_of_put hD).1
      have nai : it ≠ acc := (none_of_put hacc).2.symm
      have nDi : it ≠ D := (none_of_put hD).2.symm
      refine ⟨fun i H' => Ext H H' ∧ H' it = some (.itd dA i fA.length epA) ∧ (∃ fs, H' D = some (.ns fs)) ∧ ∃ ga ep sls, H' acc = some (.dct ga ep) ∧ Dic (Rep 0 E H (n + 1) (fun b => H0 b = none ∧ b ≠ a ∧ b ≠ l ∧ Value.ref dA ≠ .ref b)) ga sls ∧ ga.length ≤ i ∧ sls (Str.ofString "unit") = .no, ?_, ?_, ?_, ?_⟩
      · exact fun i H' x => ⟨x.2.1, x.1 _ _ hdA, x.2.2.1⟩
      · exact ⟨((Ext.refl.put hit).put hacc0).put hD0, (put_ne nDi).trans ((put_ne nai).trans put_self), ⟨_, put_self⟩, [], ea, noA, (put_ne hne).trans put_self, Dic.nil, Nat.zero_le _, rfl⟩
      · rintro i y u t H1 fs hy ⟨f1, f2, f3, ga, ep, sls, f4, f5, f6, f7⟩ hDf
        have hil : i < fA.length := (List.getElem?_eq_some_iff.mp hy).1
        generalize hH4 : AH.put (H1.put it (.itd dA (i + 1) fA.length epA)) D (.ns ((Str.ofString "name", .str y t) :: fs)) = H4
        have y1 : Ext H H4 := hH4 ▸ (f1.put hit).put hD0
        have y2 := (congrFun hH4 it).symm.trans ((put_ne nDi).trans put_self)
        have y3 := (congrFun hH4 D).symm.trans put_self
        have y4 := (congrFun hH4 acc).symm.trans ((put_ne hne).trans ((put_ne nai.symm).trans f4))
        have y5 := y1 _ _ h1
        have y6 := y1 _ _ g1
        have y7 := y1 _ _ hdA
        repeat wtm_at "e1"
        refine we_neS ?_
        refine ⟨_, rfl, ite_b (fun hb => ?_) fun hb => ?_⟩
        · have hyu : y ≠ Str.ofString "unit" := fun z => by rw [z, bne_self_eq_false] at hb; cases hb
          repeat wtm_at "e1"
          refine we_itemD y7 hDA.nodup (lookup_at hDA.nodup hy) ?_ rfl
          refine we_dictSet y4 f5.nodup (by omega) fun ep' => ?_
          refine ⟨y1.put hacc0, (put_ne nai).trans y2, ⟨_, (put_ne (Ne.symm hne)).trans y3⟩, _, ep', updA sls y (ats y), put_self, f5.put ((hDA.some _ _ (lookup_at hDA.nodup hy)).mono (Nat.zero_le _) (Nat.le_succ _) Ext.refl.same fun b z => z.1), Nat.le_trans (stored_length_le ..) (by omega), ?_⟩
          unfold updA
          rw [if_neg (Ne.symm hyu)]
          exact f7
        · exact ⟨y1, y2, ⟨_, y3⟩, ga, ep, sls, y4, f5, by omega, f7⟩
      · rintro H1 ⟨f1, f2, f3, ga, ep, sls, f4, f5, f6, f7⟩
        have e3 : Ext H ((H1.del it).del D) := (f1.del hit).del hD0
        have kd3 := (del_ne hne).trans ((del_ne nai.symm).trans f4)
        generalize (H1.del it).del D = H3 at e3 kd3 ⊢
        have u1 := e3 _ _ h1
        have uc := e3 _ _ g1
        wtm_at "nm"
        refine we_setA u1 (by kernel_rfl) (Nat.le_of_ble_eq_true rfl) ?_
        repeat wtm_at "e1"
        refine fin e3 hacc0 kd3 (f5.mono fun t v r => r.mono (Nat.le_refl _) (Nat.le_refl _) e3.same fun b y => ⟨y.1.1, y.1.2.1, y.1.2.2.1, fun z => y.2 (by cases z; exact hacc0)⟩) (by omega) fun h => huA (Nat.le_refl _) (by rw [← h]; exact f7)
  · exact tail Ext.refl
end
section
variable {c : Cx K} {m : Loc} {H0 H : AH} {Q : Flow → Loc → AH → Prop} {E : Addr → Prop} {R : Addr} {k n j : Nat} {a l : Addr} {kd : Kd} {ta tj : Tok} {av : Value} {vs : List Value} {ds : List Dat} {its : Nat → T} {ats : Str → T}
theorem VC.go {H' : AH} (v : VC c E R k n H0 H a l kd ta av vs ds its ats m j tj) (x : XR E R k H H') : VC c E R k n H0 H' a l kd ta av vs ds its ats m j tj :=
  have nR : ∀ {b : Addr}, H0 b = none → b ≠ R := fun hb => nR0 v.as.x.r hb
  have xh := xrel_row E R k
  have s := xh.same (S := fun b => H0 b = none ∧ b ≠ a ∧ b ≠ l ∧ av ≠ .ref b) x fun b y => nR y.1
  ⟨⟨xh.trans v.as.x x, x.ext.keep _ _ v.as.cell (nR v.as.c0), v.as.c0, v.as.row, v.as.hE⟩, x.ext.keep _ _ v.h1 (nR v.a0), x.ext.keep _ _ v.h2 (nR v.l0), v.it.go (Nat.le_refl _) (Nat.le_refl _) s fun _ x => x.1, v.at_.go (Nat.le_refl _) (Nat.le_refl _) s (fun _ x => x.1) fun d o hd h => x.ext.keep _ _ h (nR (v.d0 hd)), v.a0, v.l0, v.nac, v.nlc, v.z, v.draw⟩
theorem alt_vec (ih : AlterAt n) (room : Room c (n + 6)) (hk : k ≤ 160) (e : EnvIs c (fScope s25) [(Str.ofString "v", c.L + 1)] c.L) (vc : VC c E R k n H0 H a l kd ta av vs ds its ats m j tj)
    (q : ∀ m' t' H', XR E R k H0 H' → H' (c.L + 1) = some (.cell (some (.ref a))) → t' ≠ .node kd ds its noA ats → Rep 0 E H' (n + 2) (Fresh H0) t' (.ref a) → Q .next m' H') : WS c (exec vecB c.env) m H Q := by
  have xh := xrel_row E R k
  have nE : ∀ {b : Addr}, H0 b = none → ¬ E b := fun hb y => vc.as.hE.live _ y hb
  have nR : ∀ {b : Addr}, H0 b = none → b ≠ R := fun hb => nR0 vc.as.x.r hb
  have g1 := vc.as.cell
  have h1 := vc.h1
  have h2 := vc.h2
  have hd := vc.draw
  have hrow := vc.as.row
  have tail : WS c (execs (ifElse vecB) c.env) m H Q := ws_cons (WS.mono (alt_v1 (Q := Q) ih room hk e vc (q m)) fun f m' H' h => by
    cases f with
    | next => exact ws_nil h
    | _ => exact h)
  generalize hb : vecB = b at tail ⊢
  conv at hb => lhs; whnf
  subst hb
  repeat wtm_at "e1"
  refine we_eqI ?_
  repeat wtm_at "e1"
  refine ite_b (fun hb => ?_) fun hb => ?_
  · rcases vc.at_ with ⟨hav, rfl⟩ | ⟨dA, fA, epA, hav, hdA0, hdA, hDA, hzA, huA⟩
    · subst hav
      repeat wtm_at "e1"
      refine we_isNotNone ?_
      repeat wtm_at "e1"
      refine ite_b (fun hb => (nomatch hb)) fun _ => ?_
      refine ite_b (fun hb => (nomatch hb)) fun _ => ?_
      exact tail
    · subst hav
      repeat wtm_at "e1"
      refine we_isNotNone ?_
      repeat wtm_at "e1"
      refine ite_b (fun _ => ?_) fun hb => (nomatch hb)
      repeat wtm_at "e1"
      refine ite_b (fun _ => ?_) fun hb => (nomatch hb)
      repeat wtm_at "e1"
      refine we_sortedD hdA hDA.nodup (by omega) fun ks ss hks hperm lk hlk => ?_
      generalize hH1 : AH.put H lk _ = H1
      have e1 : Ext H H1 := hH1 ▸ Ext.refl.new hlk
      have klk := (congrFun hH1 lk).symm.trans put_self
      have vc1 := vc.ext e1
      have lk0 := vc.as.x.ext.nn hlk
      repeat wtm_at "e1"
      refine next_c room vc1.as.x.r' (by omega) fun i t H2 y2 r2 _ => ?_
      have x2 : XR E R k H1 H2 := ⟨vc1.as.x.r', y2, r2⟩
      have vc2 := vc1.go x2
      have p1 := vc2.h1
      have pc := vc2.as.cell
      have pA := x2.ext.keep _ _ (e1 _ _ hdA) (nR hdA0)
      have plk := x2.ext.keep _ _ klk (nR lk0)
      repeat wtm_at "e1"
      refine we_lenD pA hDA.nodup (by omega) fun t3 => ?_
      have hpos : 0 < fA.length := by
        cases fA with
        | nil => exact (huA (Nat.le_refl _) (hDA.none _ rfl)).elim
        | cons p r => exact Nat.zero_lt_succ _
      refine we_modI (by omega) fun t4 => ?_
      obtain ⟨p, hp, hpl⟩ := fmod_nat (i := i) (k := (fA.length : Int)) (by omega)
      rw [hp]
      have hkl : ks.length = fA.length := by rw [strs_len hks, hperm.length_eq, List.length_map]
      have hpk : p < ks.length := by omega
      have hkp : ks[p]? = some ks[p] := by simp [hpk]
      obtain ⟨x, tx, hx, hxe⟩ := strs_get hks hkp
      rw [hxe] at hkp
      refine we_itemL plk rfl hkp (by omega) ?_ rfl
      have hxm : x ∈ fA.map (·.1) := hperm.mem_iff.mp (List.mem_of_getElem? hx)
      obtain ⟨u, hu⟩ := Option.isSome_iff_exists.mp (lookup_mem.mpr hxm)
      repeat wtm_at "e1"
      refine we_itemD pA hDA.nodup hu ?_ rfl
      repeat wtm_at "e1"
      have sHH2 : Same (fun b => H0 b = none ∧ b ≠ a ∧ b ≠ l ∧ Value.ref dA ≠ .ref b) E H H2 := same_trans e1.same (xh.same x2 fun b y => nR y.1)
      refine ih (c := c) room hk ((hDA.some _ _ hu).mono (Nat.le_refl _) (Nat.le_refl _) sHH2 fun b y => y.1) r2 (vc2.as.hE.go vc2.as.x.ext vc2.as.x.r.nE) fun t5 w5 H5 x5 tne r5 => ?_
      have vc5 := vc2.go x5
      have u1 := vc5.h1
      have uc := vc5.as.cell
      have uA := x5.ext.keep _ _ pA (nR hdA0)
      repeat wtm_at "e1"
      refine we_setD uA hDA.nodup (by omega) fun ep' => ?_
      generalize hH6 : AH.put H5 dA _ = H6
      have s6 : ∀ {S : Addr → Prop}, ¬ S dA → Same S E H5 H6 := fun hS => hH6 ▸ same_put uA hS (nE hdA0) rfl
      have nd := vc.nd rfl hdA
      have v1 : H6 a = _ := hH6 ▸ (put_ne nd.1.symm).trans u1
      have v2 : H6 l = _ := hH6 ▸ (put_ne nd.2.1.symm).trans vc5.h2
      have vcc : H6 (c.L + 1) = _ := hH6 ▸ (put_ne nd.2.2.symm).trans uc
      have vA := (congrFun hH6 dA).symm.trans put_self
      have x6 : XR E R k H0 H6 := hH6 ▸ xh.put vc5.as.x hdA0
      have s26 : Same (fun b => H0 b = none ∧ b ≠ a ∧ b ≠ l ∧ Value.ref dA ≠ .ref b) E H2 H6 := same_trans (xh.same x5 fun b y => nR y.1) (s6 fun y => y.2.2.2 rfl)
      have d6 : Dic (Rep 0 E H6 (n + 1) (fun b => H0 b = none ∧ b ≠ a ∧ b ≠ l ∧ Value.ref dA ≠ .ref b)) fA ats := hDA.mono fun t v r => r.mono (Nat.zero_le _) (Nat.le_succ _) (same_trans sHH2 s26) fun b y => y.1
      repeat wtm_at "e1"
      refine q _ _ _ x6 vcc (fun h => ?_) (mkV vc.a0 vc.l0 v1 v2 (by have := vc.z; omega) (fun b hb => hb) (vc2.it.go (Nat.zero_le _) (Nat.le_succ _) s26 fun b y => y.1) (.inr ⟨dA, _, ep', rfl, hdA0, vA, d6.put (x := x) (u := w5) (t := t5) (r5.mono (Nat.le_refl _) (Nat.le_refl _) (s6 fun y => absurd y (some_ne pA)) fun b y => ⟨vc2.as.x.ext.nn y.1, ne_of_none y.1 p1, ne_of_none y.1 vc2.h2, fun z => by cases z; exact absurd y.1 (some_ne pA)⟩), Nat.le_trans (Nat.add_le_add_right (stored_length_le ..) 0) (by omega), fun h => absurd h (by omega)⟩))
      injection h with _ _ _ _ h
      exact updA_ne tne h
  · refine ite_b (fun hb => (nomatch hb)) fun _ => ?_
    exact tail
end
theorem alter_step {n : Nat} (ih : AlterAt n) : AlterAt (n + 1) := by
  intro c m H0 E S R k t v Q room hk hv row hE q
  have xh := xrel_row E R k
  refine ws_funC (binds := [(Str.ofString "row", .ref R), (Str.ofString "v", v)]) (ml := [(Str.ofString "row", .ref R)]) (cells := fun n => [(Str.ofString "v", n)]) (fn_altered _) room.lt (fun _ => rfl) (by decide +kernel) (fun n => ⟨by simp, fun p hp => by simp at hp; subst hp; exact Nat.le_refl _⟩) (by kernel_rfl) ((show _ = (fun y => if y = Str.ofString "row" then some (.ref R) else nm [] y) by kernel_rfl).trans (lookup_set _ _ [])) rfl (fun s hs _ _ _ _ _ _ _ _ => BindsTo.of_eq rfl) fun c' sub fr => ?_
  have room' : Room c' (n + 6) := room.sub sub
  have e : EnvIs c' (fScope s25) [(Str.ofString "v", c'.L + 1)] c'.L := sub.env
  have f1 : H0 (c'.L + 1) = none := fr (Str.ofString "v", c'.L + 1) (.head _)
  generalize hHc : putCells _ _ H0 = Hc
  have e0 : Ext H0 Hc := hHc ▸ Ext.refl.put f1
  have kc : Hc (c'.L + 1) = some (.cell (some v)) := hHc ▸ put_self
  clear hHc
  have nE : ∀ {b : Addr}, H0 b = none → ¬ E b := fun hb y => hE.live _ y hb
  have nR : ∀ {b : Addr}, H0 b = none → b ≠ R := fun hb => nR0 row hb
  generalize hb : fBody s25 = b
  conv at hb => lhs; whnf
  subst hb
  wtm_at "e1"
  refine ws_assignC e (by kernel_rfl) lk_here (by rfl) ?_
  repeat wtm_at "e1"
  refine again_all (n + 1) (room'.mono (by omega)) (hv.ext e0) (fun b hb => e0.live (hE.live b hb)) fun v' H1 e1 r1 => ?_
  have kc1 := e1 _ _ kc
  refine ⟨_, kc1, ?_⟩
  have x2 : XR E R k H0 (H1.put (c'.L + 1) (.cell (some v'))) := xh.put ⟨row, (e0.trans e1).toR R, row.ext (e0.trans e1)⟩ f1
  have kc2 : (H1.put (c'.L + 1) (.cell (some v'))) (c'.L + 1) = some (.cell (some v')) := put_self
  have r2 : Rep 2 E (H1.put (c'.L + 1) (.cell (some v'))) (n + 1) (Fresh Hc) t v' := r1.mono (Nat.le_refl _) (Nat.le_refl _) (same_put kc1 (fun y => absurd y (some_ne kc)) (nE f1) rfl) fun b y => y.1
  have hS : ∀ b, Fresh Hc b → H0 b = none ∧ b ≠ c'.L + 1 := fun b y => ⟨e0.nn y, ne_of_none y kc⟩
  generalize H1.put (c'.L + 1) (.cell (some v')) = H2 at x2 kc2 r2 ⊢
  wtm_at "e1"
  wtm_at "e1"
  wtm_at "e1"
  refine next_local (j := n + 5) e (by kernel_rfl) (by kernel_rfl) (by wtm_at "lk") room' x2.r' (by omega) (by decide) fun i td H3 i0 i4 x3 _ => ?_
  obtain ⟨j, rfl⟩ := Int.eq_ofNat_of_zero_le i0
  have x03 := xh.trans x2 x3
  have r3 : Rep 2 E H3 (n + 1) (Fresh Hc) t v' := r2.mono (Nat.le_refl _) (Nat.le_refl _) (xh.same x3 fun b y => nR (hS b y).1) fun b y => y.1
  have kc3 := x3.ext.keep _ _ kc2 (nR f1)
  replace r3 : Node 2 E H3 (Rep 2 E H3 n) (Fresh Hc) t v' := r3
  have hhead := r3.head
  obtain ⟨kd, ds, its, sls, ats, a, fs, tk, av, S1, rfl, kv, -, -⟩ := hhead
  obtain rfl := kv.v
  have as : AS c' E R k H0 H3 a [(Str.ofString "draw", .int (j : Int) td), (Str.ofString "row", .ref R)] := ⟨x03, kc3, f1, by wtm_at "lk", hE⟩
  have hj : List.lookup (Str.ofString "draw") [(Str.ofString "draw", Value.int (j : Int) td), (Str.ofString "row", .ref R)] = some (.int (j : Int) td) := lk_here
  repeat wtm_at "e1"
  refine we_kind kv ?_
  repeat wtm_at "e1"
  refine we_eqS ?_
  repeat wtm_at "e1"
  refine ite_b (fun hb => ?_) fun hb0 => ?_
  · obtain rfl := (kd_beq kd .call rfl).mp hb
    cases r3 with
    | call hs sa sl sg ng na nl ng2 h1 h2 h3 h4 h5 h6 h7 h8 h9 =>
      obtain ⟨hne, rfl, ds', rfl⟩ := h8 (Nat.le_refl _)
      cases h9
      exact alt_call ih room' hk e as hS hs sa sl sg ng na nl ng2 h1 h2 h3 h4 h5 h6 h7 hne hj fun m' t' H' x' tne r' => q _ _ _ x' tne r'
    | leaf hk => exact nomatch hk
    | list hk => exact nomatch hk
  repeat wtm_at "e1"
  refine we_isV kv ?_
  repeat wtm_at "e1"
  refine ite_b (fun hvec => ?_) fun hvec => ?_
  · obtain ⟨a1, l, t1, av1, vs, S', he, sa, sl, na, nl, hs, h1, h2, h3, h4, rfl, h5⟩ := r3.vec hvec
    cases he
    have hnd : ∀ b, S' b → av1 ≠ .ref b := fun b hb y => by
      cases h4 with
      | none => cases y
      | some g1 g2 g3 => cases y; exact g3 hb
    have vc : VC c' E R k n H0 H3 a l kd t1 av1 vs ds its ats [(Str.ofString "draw", .int (j : Int) td), (Str.ofString "row", .ref R)] j td := by
      have sub : ∀ b, S' b → (H0 b = none ∧ b ≠ a ∧ b ≠ l ∧ av1 ≠ .ref b) := fun b hb => ⟨(hS b (hs b hb)).1, fun y => na (y ▸ hb), fun y => nl (y ▸ hb), hnd b hb⟩
      refine ⟨as, h1, h2, ?_, ?_, (hS _ sa).1, (hS _ sl).1, (hS _ sa).2, (hS _ sl).2, h3, hj⟩
      · exact h5.imp id fun x => ⟨x.1, x.2.1, x.2.2.mono fun t v r => r.mono (Nat.le_refl _) (Nat.le_refl _) Ext.refl.same fun b y => sub b y.1⟩
      · cases h4 with
        | none => exact .inl ⟨rfl, rfl⟩
        | some g1 g2 g3 g4 g5 g6 g7 => exact .inr ⟨_, _, _, rfl, (hS _ g2).1, g1, g4.mono fun t v r => r.mono (Nat.le_refl _) (Nat.le_refl _) Ext.refl.same fun b y => sub b y.1, g5, g7⟩
    refine ws_cons (alt_vec ih room' hk e vc fun m' t' H' x' kc' tne r' => ?_)
    repeat wtm_at "e1"
    exact q _ _ _ x' tne r'
  repeat wtm_at "e1"
  refine we_kind kv ?_
  repeat wtm_at "e1"
  refine we_eqS ?_
  repeat wtm_at "e1"
  refine ite_b (fun hb => ?_) fun hb1 => ?_
  · obtain rfl := (kd_beq kd .clo rfl).mp hb
    cases r3 with
    | clo hs sa sl na nl h1 h2 h3 h4 h5 h6 h7 h8 =>
      exact alt_clo ih room' hk e as hS hs sa sl na nl h1 h2 h3 h4 (h6 (Nat.le_refl _)) h7 h8 hj fun m' t' H' x' tne r' => q _ _ _ x' tne r'
    | leaf hk => exact nomatch hk
    | list hk => exact nomatch hk
  repeat wtm_at "e1"
  refine we_kind kv ?_
  repeat wtm_at "e1"
  refine we_eqS ?_
  repeat wtm_at "e1"
  refine ite_b (fun hb => ?_) fun hb2 => ?_
  · obtain rfl := (kd_beq kd .sym rfl).mp hb
    cases r3 with
    | sym sa h1 hx =>
      have hx := hx (Nat.le_refl _)
      repeat wtm_at "e1"
      refine we_gtI ?_
      repeat wtm_at "e1"
      refine ite_b (fun _ => ?_) fun _ => ?_
      · repeat wtm_at "e1"
        refine we_addS (by have : (Str.ofString "1").length = 1 := by kernel_rfl
                           omega) fun t1 => ?_
        repeat wtm_at "e1"
        refine mk_Symbol (room'.mono (by omega)) fun a2 t2 H4 e4 ha2 ka2 => ?_
        repeat wtm_at "e1"
        refine q _ _ _ (xh.trans x03 ⟨x03.r', e4.toR R, x03.r'.ext e4⟩) (fun h => ?_) (show Node _ _ _ _ _ _ _ from .sym (x03.ext.nn ha2) ka2 fun h => absurd h (by omega))
        injection h with _ h
        injection h with h
        injection h with h
        exact app1_ne h
      · repeat wtm_at "e1"
        refine we_newList (Nat.le_of_ble_eq_true rfl) fun l2 hl2 => ?_
        repeat wtm_at "e1"
        refine mk_Vector2 (k := .chr) (room'.mono (by omega)) fun a2 H4 e4 ha2 ka2 => ?_
        have e34 := (Ext.refl.new hl2).trans e4
        have kl := e4 _ _ (put_self (H := H3) (a := l2) (o := .lst _))
        have ha3 := (none_of_put ha2).1
        repeat wtm_at "e1"
        refine q _ _ _ (xh.trans x03 ⟨x03.r', e34.toR R, x03.r'.ext e34⟩) (fun h => ?_) (show Node _ _ _ _ _ _ _ from .leaf (S' := fun _ => False) rfl (fun b x => x.elim) (x03.ext.nn ha3) (x03.ext.nn hl2) id id ka2 kl (.cons (.str _ _ hx.2) .nil) (Nat.le_of_ble_eq_true rfl) .none)
        injection h with h
        cases h
    | leaf hk => exact nomatch hk
    | list hk => exact nomatch hk
  repeat wtm_at "e1"
  refine we_kind kv ?_
  repeat wtm_at "e1"
  refine we_eqS ?_
  repeat wtm_at "e1"
  refine ite_b (fun hb => ?_) fun hb3 => ?_
  · obtain rfl := (kd_beq kd .env rfl).mp hb
    cases r3 with
    | env sa h1 =>
      repeat wtm_at "e1"
      refine we_addI fun t1 => ?_
      repeat wtm_at "e1"
      refine mk_Env (room'.mono (by omega)) fun a2 t2 f2 l2 H4 e4 ha2 ka2 => ?_
      repeat wtm_at "e1"
      refine q _ _ _ (xh.trans x03 ⟨x03.r', e4.toR R, x03.r'.ext e4⟩) (fun h => ?_) (show Node _ _ _ _ _ _ _ from .env (.inl (x03.ext.nn ha2)) ka2)
      injection h with _ h
      injection h with h
      injection h with h
      omega
    | leaf hk => exact nomatch hk
    | list hk => exact nomatch hk
  repeat wtm_at "e1"
  refine we_kind kv ?_
  repeat wtm_at "e1"
  refine we_eqS ?_
  repeat wtm_at "e1"
  refine ite_b (fun hb => ?_) fun hb4 => ?_
  · obtain rfl := (kd_beq kd .s4 rfl).mp hb
    cases r3 with
    | s4 hs sa sd na nd h1 h2 h3 h4 h5 =>
      exact alt_s4 ih room' hk e as hS hs sa sd na nd h1 h2 h3 h4 (h5 (Nat.le_refl _)) hj fun m' t' H' x' tne r' => q _ _ _ x' tne r'
    | leaf hk => exact nomatch hk
    | list hk => exact nomatch hk
  repeat wtm_at "e1"
  refine we_newList (Nat.zero_le _) fun l2 hl2 => ?_
  repeat wtm_at "e1"
  refine mk_Vector2 (k := .lst) (room'.mono (by omega)) fun a2 H4 e4 ha2 ka2 => ?_
  have e34 := (Ext.refl.new hl2).trans e4
  have kl := e4 _ _ (put_self (H := H3) (a := l2) (o := .lst []))
  have ha3 := (none_of_put ha2).1
  repeat wtm_at "e1"
  refine q _ _ _ (xh.trans x03 ⟨x03.r', e34.toR R, x03.r'.ext e34⟩) (fun h => ?_) (show Node _ _ _ _ _ _ _ from .list (S' := fun _ => False) (its := noI) rfl (fun b x => x.elim) (x03.ext.nn ha3) (x03.ext.nn hl2) id id ka2 kl ⟨fun i v h => by simp at h, fun _ _ => rfl⟩ (Nat.le_of_ble_eq_true rfl) .none)
  injection h with h
  subst h
  cases hvec
theorem alter_all : ∀ n, AlterAt n
  | 0 => fun _ _ h => h.elim
  | n + 1 => alter_step (alter_all n)
theorem id_all : ∀ n, IdAt n
  | 0 => fun _ h => h.elim
  | n + 1 => id_step (ker_step (id_all n)) (attr_step (id_all n))
theorem code_all : ∀ n, CodeAt n
  | 0 => fun _ h => h.elim
  | n + 1 => code_step (ker_step (id_all n)) (code_all n)
theorem fg_ne : ¬ (Str.ofString "f" = Str.ofString "g") := fun h => by
  have h1 : (Str.ofString "f" == Str.ofString "g") = false := by kernel_rfl
  rw [beq_iff_eq.mpr h] at h1
  cases h1
theorem we_notB {c : Cx K} {m : Loc} {H : AH} {Q : Value → AH → Prop} {b : Bool} (h : Q (.bool (!b)) H) : WE c (unaryOp .Not (.bool b)) m H Q := fun s I => PyProof.Rows.not_of (wpAny_truthy_bool (pq I h))
theorem law_last {c : Cx K} {m : Loc} {H : AH} (e : EnvIs c (fScope s26) [] c.L) (room : Room c 600) : WS c (execs (dropL 12 (fBody s26)) c.env) m H (fun fl _ _ => retv fl = .bool true) := by
  generalize hb : dropL 12 (fBody s26) = b
  conv at hb => lhs; whnf
  subst hb
  have rc : Room c (3 * 3 + 4) := room.mono (by omega)
  repeat wtm_at "e1"
  refine we_newList (Nat.le_of_ble_eq_true rfl) fun ln hln => ?_
  generalize hH1 : AH.put H ln _ = H1
  have kln := (congrFun hH1 ln).symm.trans put_self
  clear hH1 hln
  wtm_at "e1"
  refine we_dictMade (by kernel_rfl) (by kernel_rfl) (by kernel_rfl) (fun x => nomatch x) (Nat.le_of_ble_eq_true rfl) fun d hd => ?_
  have nld : d ≠ ln := ne_of_none hd kln
  generalize hH2 : AH.put H1 d _ = H2
  have e2 : Ext H1 H2 := hH2 ▸ Ext.refl.new hd
  have kd := (congrFun hH2 d).symm.trans put_self
  clear hH2 hd
  repeat wtm_at "e1"
  refine we_newList (Nat.le_of_ble_eq_true rfl) fun lc hlc => ?_
  generalize hH3 : AH.put H2 lc _ = H3
  have e3 : Ext H2 H3 := hH3 ▸ Ext.refl.new hlc
  have klc := (congrFun hH3 lc).symm.trans put_self
  have nlcd : lc ≠ d := ne_of_none hlc kd
  have nlcn : lc ≠ ln := ne_of_none hlc (e2 _ _ kln)
  clear hH3 hlc
  repeat wtm_at "e1"
  refine mk_Vector2 (k := .chr) (room.mono (by omega)) fun vc H4 e4 hvc kvc => ?_
  have nvd : vc ≠ d := ne_of_none hvc (e3 _ _ kd)
  have nvn : vc ≠ ln := ne_of_none hvc ((e2.trans e3) _ _ kln)
  have kd4 := (e3.trans e4) _ _ kd
  have klc4 := e4 _ _ klc
  have kln4 := (e2.trans (e3.trans e4)) _ _ kln
  repeat wtm_at "e1"
  refine ⟨_, .cons .nil, kd4, fun ep => ?_⟩
  have em : merged [] [(Str.ofString "names", Value.ref vc)] = [(Str.ofString "names", Value.ref vc)] := by kernel_rfl
  rw [em]
  generalize hH5 : AH.put H4 d _ = H5
  have kd5 := (congrFun hH5 d).symm.trans put_self
  have klc5 := (congrFun hH5 lc).symm.trans ((put_ne nlcd).trans klc4)
  have kln5 := (congrFun hH5 ln).symm.trans ((put_ne nld.symm).trans kln4)
  have kvc5 := (congrFun hH5 vc).symm.trans ((put_ne nvd).trans kvc)
  clear hH5 kd4 klc4 kln4 kvc
  repeat wtm_at "e1"
  refine mk_Vector3 (k := .int) (room.mono (by omega)) fun vn H6 e6 hvn kvn => ?_
  have rnamed : Rep 1 (fun _ => False) H6 3 (fun _ => True) (leafT .int [.int 1] (fun y => if y = Str.ofString "names" then leafT .chr [.str (Str.ofString "a")] noA else noA y)) (.ref vn) := Rep.up (n := 2) (show Node _ _ _ _ _ _ _ from .leaf (S' := fun b => b = vc ∨ b = lc) rfl (fun b x => trivial) trivial trivial (fun x => x.elim (ne_of_none hvn kvc5) (ne_of_none hvn klc5)) (fun x => x.elim nvn.symm nlcn.symm) kvn (e6 _ _ kln5) (.cons (.int _ _) .nil) (Nat.le_of_ble_eq_true rfl) (.some (e6 _ _ kd5) trivial (fun x => x.elim nvd.symm nlcd.symm) (Dic.cons Dic.nil rfl (show Node _ _ _ _ _ _ _ from .leaf (S' := fun _ => False) rfl (fun b x => x.elim) (.inl rfl) (.inr rfl) id id (e6 _ _ kvc5) (e6 _ _ klc5) (.cons (.str _ _ strOk4.2.1) .nil) (Nat.le_of_ble_eq_true rfl) .none)) (Nat.le_of_ble_eq_true rfl) (fun _ => .inr ⟨.chr, _, _, rfl, if_pos rfl⟩) fun h => absurd h (by omega))) (by omega)
  clear kvn hvn kvc5 klc5 kln5 kd5 e6
  repeat wtm_at "e1"
  refine we_newList (Nat.le_of_ble_eq_true rfl) fun lb hlb => ?_
  generalize hH7 : AH.put H6 lb _ = H7
  have e7 : Ext H6 H7 := hH7 ▸ Ext.refl.new hlb
  have klb := (congrFun hH7 lb).symm.trans put_self
  clear hH7 hlb
  wtm_at "e1"
  refine we_dictMade (by kernel_rfl) (by kernel_rfl) (by kernel_rfl) (fun x => nomatch x) (Nat.le_of_ble_eq_true rfl) fun d2 hd2 => ?_
  have nld2 : d2 ≠ lb := ne_of_none hd2 klb
  have hd27 := hd2
  generalize hH8 : AH.put H7 d2 _ = H8
  have e8 : Ext H7 H8 := hH8 ▸ Ext.refl.new hd2
  have kd2 := (congrFun hH8 d2).symm.trans put_self
  clear hH8
  repeat wtm_at "e1"
  refine mk_Null (room.mono (by omega)) fun nu tnu H9 e9 hnu knu => ?_
  have nnd : nu ≠ d2 := ne_of_none hnu kd2
  have nnb : nu ≠ lb := ne_of_none hnu (e8 _ _ klb)
  have e79 := e8.trans e9
  repeat wtm_at "e1"
  refine ⟨_, .cons .nil, e9 _ _ kd2, fun ep => ?_⟩
  have em : merged [] [(Str.ofString "note", Value.ref nu)] = [(Str.ofString "note", Value.ref nu)] := by kernel_rfl
  rw [em]
  generalize hH10 : AH.put H9 d2 _ = H10
  have e710 : Ext H7 H10 := hH10 ▸ e79.put hd27
  have kd10 := (congrFun hH10 d2).symm.trans put_self
  have knu10 := (congrFun hH10 nu).symm.trans ((put_ne nnd).trans knu)
  clear hH10
  repeat wtm_at "e1"
  refine mk_Vector3 (k := .int) (room.mono (by omega)) fun vb H11 e11 hvb kvb => ?_
  have rbare : Rep 1 (fun _ => False) H11 3 (fun _ => True) (leafT .int [.int 1] (fun y => if y = Str.ofString "note" then .node .null [] noI noA noA else noA y)) (.ref vb) := Rep.up (n := 2) (show Node _ _ _ _ _ _ _ from .leaf (S' := fun b => b = nu) rfl (fun b x => trivial) trivial trivial (fun x => ne_of_none hvb knu10 x) nnb.symm kvb ((e710.trans e11) _ _ klb) (.cons (.int _ _) .nil) (Nat.le_of_ble_eq_true rfl) (.some (e11 _ _ kd10) trivial nnd.symm (Dic.cons Dic.nil rfl (show Node _ _ _ _ _ _ _ from .null rfl (e11 _ _ knu10))) (Nat.le_of_ble_eq_true rfl) (fun _ => .inl (if_neg (by exact fun h => nomatch (beq_iff_eq.mpr h).symm.trans (by kernel_rfl : (Str.ofString "names" == Str.ofString "note") = false)))) fun h => absurd h (by omega))) (by omega)
  replace rnamed := rnamed.ext (e7.trans (e710.trans e11))
  clear kvb hvb knu10 kd10 e710 e11 e79 e9 e8 kd2 klb e7 hd27 hd2 knu hnu
  have nn : (if Str.ofString "names" = Str.ofString "note" then T.node .null [] noI noA noA else noA (Str.ofString "names")) = .no := if_neg (by exact fun h => nomatch (beq_iff_eq.mpr h).symm.trans (by kernel_rfl : (Str.ofString "names" == Str.ofString "note") = false))
  repeat wtm_at "e1"
  refine code_all 3 rc rnamed rbare fun b1 H12 e12 hb1 => ?_
  obtain rfl : b1 = false := by
    cases b1 with
    | false => rfl
    | true =>
      have h := ((code_flat rfl).mp (hb1.mp rfl)).2
      have h := nmA_eq.mp h
      rw [if_pos rfl, nn] at h
      cases h
  refine we_notB ?_
  refine ⟨_, rfl, ite_b (fun _ => ?_) fun hb => (nomatch hb)⟩
  repeat wtm_at "e1"
  refine we_newList (Nat.le_of_ble_eq_true rfl) fun l13 hl13 => ?_
  generalize hH13 : AH.put H12 l13 _ = H13
  have e13 : Ext H12 H13 := hH13 ▸ Ext.refl.new hl13
  have k13 := (congrFun hH13 l13).symm.trans put_self
  clear hH13 hl13
  repeat wtm_at "e1"
  refine mk_Vector2 (k := .int) (room.mono (by omega)) fun v14 H14 e14 hv14 k14 => ?_
  have rone : Rep 1 (fun _ => False) H14 3 (fun _ => True) (leafT .int [.int 1] noA) (.ref v14) := Rep.up (n := 1) (show Node _ _ _ _ _ _ _ from .leaf (S' := fun _ => False) rfl (fun b x => trivial) trivial trivial id id k14 (e14 _ _ k13) (.cons (.int _ _) .nil) (Nat.le_of_ble_eq_true rfl) .none) (by omega)
  have e1114 := e12.trans (e13.trans e14)
  repeat wtm_at "e1"
  refine code_all 3 rc (rbare.ext e1114) rone fun b2 H15 e15 hb2 => ?_
  obtain rfl : b2 = true := hb2.mpr ((code_flat rfl).mpr ⟨⟨rfl, rfl, rfl⟩, nmA_eq.mpr (by rw [nn]; rfl)⟩)
  refine ⟨_, rfl, ite_b (fun _ => ?_) fun hb => (nomatch hb)⟩
  repeat wtm_at "e1"
  refine we_newTuple (Nat.le_of_ble_eq_true rfl) fun tp htp => ?_
  generalize hH16 : AH.put H15 tp _ = H16
  have e16 : Ext H15 H16 := hH16 ▸ Ext.refl.new htp
  have k16 := (congrFun hH16 tp).symm.trans put_self
  clear hH16 htp
  repeat wtm_at "e1"
  refine we_newList (Nat.le_of_ble_eq_true rfl) fun l17 hl17 => ?_
  generalize hH17 : AH.put H16 l17 _ = H17
  have e17 : Ext H16 H17 := hH17 ▸ Ext.refl.new hl17
  have k17 := (congrFun hH17 l17).symm.trans put_self
  clear hH17 hl17
  repeat wtm_at "e1"
  refine mk_Vector2 (k := .dbl) (room.mono (by omega)) fun v18 H18 e18 hv18 k18 => ?_
  have rdbl : Rep 1 (fun _ => False) H18 3 (fun _ => True) (leafT .dbl [.tuple [.int 1, .int 1]] noA) (.ref v18) := Rep.up (n := 1) (show Node _ _ _ _ _ _ _ from .leaf (S' := fun _ => False) rfl (fun b x => trivial) trivial trivial id id k18 (e18 _ _ k17) (.cons (.pair ((e17.trans e18) _ _ k16)) .nil) (Nat.le_of_ble_eq_true rfl) .none) (by omega)
  repeat wtm_at "e1"
  refine code_all 3 rc (rbare.ext (e1114.trans (e15.trans (e16.trans (e17.trans e18))))) rdbl fun b3 H19 e19 hb3 => ?_
  obtain rfl : b3 = false := by
    cases b3 with
    | false => rfl
    | true => exact nomatch code_kind (hb3.mp rfl)
  refine we_notB ?_
  repeat wtm_at "e1"
  rfl
theorem law_end {c : Cx K} {m : Loc} {H0 H : AH} {E Sx : Addr → Prop} {its : Nat → T} {cv sv : Value} (e : EnvIs c (fScope s26) [] c.L) (room : Room c 600)
    (rcx : Rep 2 E H0 162 Sx (.node .call [.none, .none] its noA noA) cv) (rsv : Rep 2 E H 162 (Fresh H0) (.node .call [.none, .none] its noA noA) sv) (hS : ∀ b, Sx b → H0 b ≠ none) (hE : ∀ b, E b → H0 b ≠ none) (e0 : Ext H0 H)
    (its0 : its 0 = .node .sym [.str (Str.ofString "f")] noI noA noA) (its1 : its 1 ≠ .no) (hs : m.lookup (Str.ofString "same") = some sv) (hc : m.lookup (Str.ofString "code_of_x") = some cv) : WS c (execs (dropL 9 (fBody s26)) c.env) m H (fun fl _ _ => retv fl = .bool true) := by
  generalize hb : dropL 9 (fBody s26) = b
  conv at hb => lhs; whnf
  subst hb
  have rc : Room c (3 * 163 + 4) := room.mono (by omega)
  have rid : Room c (3 * 163 + 2) := room.mono (by omega)
  have rcx1 : Rep 1 E H 163 Sx (.node .call [.none, .none] its noA noA) cv := ((rcx.weak (by omega)).up (by omega)).ext e0
  repeat wtm_at "e1"
  refine code_all 163 rc rcx1 ((rsv.weak (by omega)).up (by omega)) fun b1 H1 e1 hb1 => ?_
  obtain rfl := hb1.mpr rfl
  refine ⟨true, rfl, ?_⟩
  refine ite_b (fun hb => (nomatch hb)) fun _ => ?_
  replace rsv : Node 2 E H (Rep 2 E H 161) (Fresh H0) (.node .call [.none, .none] its noA noA) sv := rsv
  cases rsv with
  | @call a l g ta av vs ts _ _ _ S1 hs1 sa sl sg ng na nl ng2 h1 h2 h3 h4 h5 h6 h7 h8 h9 =>
    obtain ⟨_, rfl, _⟩ := h8 (Nat.le_refl _)
    have hvs : 1 < vs.length := Nat.lt_of_not_le fun h => its1 (h4.2 1 h)
    have hv1 : vs[1]? = some vs[1] := by simp [hvs]
    have ru := h4.1 1 _ hv1
    have e01 := e0.trans e1
    repeat wtm_at "e1"
    refine mk_Symbol (room.mono (by omega)) fun sg' tg H2 e2 hsg ksg => ?_
    have e12 := e1.trans e2
    have p1 := e12 _ _ h1
    have p2 := e12 _ _ h2
    repeat wtm_at "e1"
    refine we_itemL (j := 1) p2 rfl hv1 (by omega) ?_ rfl
    repeat wtm_at "e1"
    refine we_newList (Nat.le_of_ble_eq_true rfl) fun lx hlx => ?_
    generalize hH3 : AH.put H2 lx _ = H3
    have e3 : Ext H2 H3 := hH3 ▸ Ext.refl.new hlx
    have klx := (congrFun hH3 lx).symm.trans put_self
    clear hH3
    repeat wtm_at "e1"
    refine we_newList (Nat.le_of_ble_eq_true rfl) fun lg hlg => ?_
    generalize hH4 : AH.put H3 lg _ = H4
    have e4 : Ext H3 H4 := hH4 ▸ Ext.refl.new hlg
    have klg := (congrFun hH4 lg).symm.trans put_self
    clear hH4
    have nlg : lx ≠ lg := (ne_of_none hlg klx).symm
    repeat wtm_at "e1"
    refine mk_Call2 (room.mono (by omega)) fun cg tc H5 e5 hcg kcg => ?_
    have e25 := e3.trans (e4.trans e5)
    have hcg2 : H2 cg = none := e3.nn (e4.nn hcg)
    have hlg2 : H2 lg = none := e3.nn hlg
    have ch : ∀ {t : T} {v : Value} {S : Addr → Prop}, Rep 2 E H2 161 S t v → Rep 1 E H5 161 (fun b => H2 b ≠ none) t v := fun r => r.mono (by omega) (Nat.le_refl _) e25.same fun b y => y.2
    have rsg : Rep 2 E H2 161 (fun _ => True) (.node .sym [.str (Str.ofString "g")] noI noA noA) (.ref sg') := show Node _ _ _ _ _ _ _ from .sym trivial ksg fun _ => ⟨Nat.le_of_ble_eq_true (by kernel_rfl), by kernel_rfl⟩
    have kidc := Kids.cons (Kids.cons (vs := []) (its := noI) ⟨fun i v h => by simp at h, fun _ _ => rfl⟩ (ch (ru.ext e12))) (ch rsg)
    have rcg : Rep 1 E H5 163 (fun _ => True) (.node .call [.none, .none] _ noA noA) (.ref cg) := Rep.up (n := 162) (show Node _ _ _ _ _ _ _ from .call (fun b hb => trivial) trivial trivial trivial nlg (fun y => y hcg2) (fun y => y hlx) (fun y => y hlg2) kcg ((e4.trans e5) _ _ klx) (e5 _ _ klg) kidc (.cons .none (.cons .none .nil)) (Nat.le_of_ble_eq_true rfl) (Nat.le_of_ble_eq_true rfl) (fun h => absurd h (by omega)) .none) (by omega)
    have e15 := e12.trans e25
    repeat wtm_at "e1"
    refine code_all 163 rc (rcx1.ext e15) rcg fun b2 H6 e6 hb2 => ?_
    obtain rfl : b2 = false := by
      cases b2 with
      | false => rfl
      | true =>
        have h := hb2.mp rfl
        rw [code_deep rfl] at h
        have h := h.1.2.1 0
        rw [its0] at h
        have h := ((code_flat rfl).mp h).1.1
        injection h with h
        injection h with h
        exact (fg_ne h).elim
    refine ⟨false, rfl, ?_⟩
    refine ite_b (fun hb => (nomatch hb)) fun _ => ?_
    have e16 := e15.trans e6
    clear rcg kidc rsg ch hcg2 hlg2 e25 kcg hcg nlg klg hlg klx hlx e3 e4 e5 ksg hsg p1 p2
    wtm_at "e1"
    refine ite_b (fun hb => (nomatch hb)) fun _ => ?_
    repeat wtm_at "e1"
    refine we_dictMade (by kernel_rfl) (by kernel_rfl) (by kernel_rfl) (fun x => nomatch x) (Nat.le_of_ble_eq_true rfl) fun d hd => ?_
    generalize hH7 : AH.put H6 d _ = H7
    have e7 : Ext H6 H7 := hH7 ▸ Ext.refl.new hd
    have kd := (congrFun hH7 d).symm.trans put_self
    clear hH7
    repeat wtm_at "e1"
    refine mk_Null (room.mono (by omega)) fun nu tn H8 e8 hnu knu => ?_
    have nnd : nu ≠ d := ne_of_none hnu kd
    have hnu6 := e7.nn hnu
    have e68 := e7.trans e8
    repeat wtm_at "e1"
    refine ⟨_, .cons .nil, e8 _ _ kd, fun ep => ?_⟩
    have em : merged [] [(Str.ofString "note", Value.ref nu)] = [(Str.ofString "note", Value.ref nu)] := by kernel_rfl
    rw [em]
    generalize hH9 : AH.put H8 d _ = H9
    have e69 : Ext H6 H9 := hH9 ▸ e68.put hd
    have kd9 := (congrFun hH9 d).symm.trans put_self
    have knu9 := (congrFun hH9 nu).symm.trans ((put_ne nnd).trans knu)
    clear hH9
    have e19 := e16.trans e69
    have u1 := e19 _ _ h1
    have h6a := e16 _ _ h1
    have h6l := e16 _ _ h2
    have h6g := e16 _ _ h3
    wtm_at "nm"
    refine we_setA u1 (by kernel_rfl) (Nat.le_of_ble_eq_true rfl) ?_
    have ep' : putF (Str.ofString "attrs") (.ref d) (fCall ta l g .none) = fCall ta l g (.ref d) := by kernel_rfl
    rw [ep']
    have nE : ∀ {b : Addr}, H0 b = none → ¬ E b := fun hb y => hE _ y hb
    generalize hHA : AH.put H9 a _ = HA
    have sA : ∀ {S : Addr → Prop}, ¬ S a → Same S E H9 HA := fun hS => hHA ▸ same_put u1 hS (nE sa) rfl
    have kA := (congrFun hHA a).symm.trans put_self
    have nal : l ≠ a := fun y => by rw [y, h1] at h2; cases h2
    have nag : g ≠ a := fun y => by rw [y, h1] at h3; cases h3
    have nda : d ≠ a := ne_of_none hd h6a
    have nna : nu ≠ a := ne_of_none hnu6 h6a
    have kAl := (congrFun hHA l).symm.trans ((put_ne nal).trans (e19 _ _ h2))
    have kAg := (congrFun hHA g).symm.trans ((put_ne nag).trans (e19 _ _ h3))
    have kAd := (congrFun hHA d).symm.trans ((put_ne nda).trans kd9)
    have kAn := (congrFun hHA nu).symm.trans ((put_ne nna).trans knu9)
    have rcA : Rep 1 E HA 163 Sx (.node .call [.none, .none] its noA noA) cv := (rcx1.ext e19).mono (Nat.le_refl _) (Nat.le_refl _) (sA fun y => hS _ y sa) fun b y => y.1
    have rsA : Rep 1 E HA 163 (fun _ => True) (.node .call [.none, .none] its noA (fun y => if y = Str.ofString "note" then .node .null [] noI noA noA else noA y)) (.ref a) := Rep.up (n := 162) (show Node _ _ _ _ _ _ _ from .call (S' := fun b => (S1 b ∧ H6 b ≠ none) ∨ b = nu) (fun b y => trivial) trivial trivial trivial ng (fun x => x.elim (fun x => na x.1) fun x => nna x.symm) (fun x => x.elim (fun x => nl x.1) fun x => ne_of_none hnu6 h6l x.symm) (fun x => x.elim (fun x => ng2 x.1) fun x => ne_of_none hnu6 h6g x.symm) kA kAl kAg (h4.mono fun t v r => ((r.ext e16).mono (S2 := fun b => S1 b ∧ H6 b ≠ none) (n' := 161) (by omega : 1 ≤ 2) (Nat.le_refl _) e69.same fun b y => y).mono (Nat.le_refl _) (Nat.le_refl _) (sA fun y => na y.1) fun b y => .inl y.1) (h5.mono fun b vs hb => sA (S := fun _ => False) id _ _ (e19 _ _ hb) (.inr (.inr rfl))) (by omega) (by omega) (fun h => absurd h (by omega)) (.some kAd trivial (fun x => x.elim (fun x => x.2 hd) fun x => nnd x.symm) (Dic.cons Dic.nil rfl (show Node _ _ _ _ _ _ _ from .null (.inr rfl) kAn)) (Nat.le_of_ble_eq_true rfl) (fun _ => .inl (if_neg (by exact fun h => nomatch (beq_iff_eq.mpr h).symm.trans (by kernel_rfl : (Str.ofString "names" == Str.ofString "note") = false)))) fun h => absurd h (by omega))) (by omega)
    clear kA kAl kAg kAd kAn sA hHA u1 e19 h6a h6l h6g kd9 knu9 e69 e68 knu hnu
    repeat wtm_at "e1"
    refine code_all 163 rc rcA rsA fun b4 HB eB hb4 => ?_
    obtain rfl : b4 = true := hb4.mpr ((code_deep rfl).mpr ⟨⟨rfl, fun _ => rfl, rfl⟩, rfl⟩)
    refine ⟨true, rfl, ?_⟩
    refine ite_b (fun hb => (nomatch hb)) fun _ => ?_
    repeat wtm_at "e1"
    refine id_all 163 rid ((rcA.weak (by omega)).ext eB) ((rsA.weak (by omega)).ext eB) fun b5 HC eC hb5 => ?_
    obtain rfl : b5 = false := by
      cases b5 with
      | false => rfl
      | true =>
        have h := hb5.mp rfl
        injection h with _ _ _ _ h
        have h := congrFun h (Str.ofString "note")
        rw [if_pos rfl] at h
        cases h
    refine ⟨false, rfl, ?_⟩
    refine ite_b (fun hb => (nomatch hb)) fun _ => ?_
    wtm_at "e1"
    refine ite_b (fun hb => (nomatch hb)) fun _ => ?_
    repeat (first | with_reducible refine ws_nil ?_ | with_reducible refine after_next ?_)
    exact law_last e room
  | leaf hk => exact nomatch hk
theorem law_body {c' : Cx K} {H : AH} {l : Addr} {vs : List Value} (e : EnvIs c' (fScope s26) [] c'.L) (room : Room c' 600) (hl' : LstAt c' H l vs) (hz : vs.length ≤ 1000) (hv : ∀ v ∈ vs, ∃ i t, v = Value.int i t) : WS c' (execs (fBody s26) c'.env) [(Str.ofString "script", .ref l)] H fun fl _ _ => retv fl = .bool true := by
  generalize hb : fBody s26 = b
  conv at hb => lhs; whnf
  subst hb
  repeat wtm_at "e1"
  refine row_c (E := fun _ => False) (j := 500) (room.mono (by omega)) hl' hz hv fun R H1 e1 hR hrow => ?_
  have row1 := hrow id
  repeat wtm_at "e1"
  refine mk_Env (room.mono (by omega)) fun a1 t1 f1 l1 H2 e2 ha1 ka1 => ?_
  repeat wtm_at "e1"
  refine mk_Env (room.mono (by omega)) fun a2 t2 f2 l2 H3 e3 ha2 ka2 => ?_
  repeat wtm_at "e1"
  refine we_newList (Nat.le_of_ble_eq_true rfl) fun hl2 hhl => ?_
  generalize hH4 : AH.put H3 hl2 _ = H4
  have e34 : Ext H3 H4 := hH4 ▸ Ext.refl.new hhl
  have khl := (congrFun hH4 hl2).symm.trans put_self
  clear hH4
  have ka1' := e34 _ _ (e3 _ _ ka1)
  have ka2' := e34 _ _ ka2
  have e14 := e2.trans (e3.trans e34)
  have hE9 : Homes9 (fun b => b = a1 ∨ b = a2) H4 := fun b hb => by
    rcases hb with rfl | rfl
    · exact ⟨_, _, _, _, _, ka1', by decide⟩
    · exact ⟨_, _, _, _, _, ka2', by decide⟩
  have nE1 : ¬ (R = a1 ∨ R = a2) := fun h => h.elim (fun h => row1.live (h ▸ ha1)) fun h => (row1.ext e2).live (h ▸ ha2)
  have row4 : RowAt (fun b => b = a1 ∨ b = a2) R 160 H4 := ⟨(row1.ext e14).at_, nE1⟩
  have hhR : hl2 ≠ R := fun y => (row1.ext (e2.trans e3)).live (y ▸ hhl)
  have homes : HomesAt (fun b => b = a1 ∨ b = a2) R hl2 H4 := ⟨⟨a1, a2, khl, ⟨.inl rfl, _, _, _, _, _, ka1'⟩, .inr rfl, _, _, _, _, _, ka2'⟩, hhR, hE9.live⟩
  generalize hEE : (fun b => b = a1 ∨ b = a2) = E at hE9 row4 homes
  clear hEE ka1 ka2 ka1' ka2' ha1 ha2 nE1 e2 e3 e34 hhl row1 hrow
  have xh := xrel_row E R 160
  repeat wtm_at "e1"
  refine made_all 160 (room.mono (by omega)) (Nat.le_refl _) row4 homes fun t v H5 x5 r5 => ?_
  repeat wtm_at "e1"
  refine again_all 161 (room.mono (by omega)) r5 (homes.go x5.ext row4.nE).live fun w H6 e6 r6 => ?_
  have x6 : XR E R 160 H5 H6 := ⟨x5.r', e6.toR R, x5.r'.ext e6⟩
  have x46 := xh.trans x5 x6
  repeat wtm_at "e1"
  refine alter_all 161 (room.mono (by omega)) (Nat.le_refl _) (r5.ext e6) x6.r' (hE9.go x46.ext row4.nE) fun t' o H7 x7 tne r7 => ?_
  have x47 := xh.trans x46 x7
  have rv : Rep 0 E H7 162 (Fresh H4) t v := (((r5.ext e6).mono (Nat.zero_le _) (Nat.le_succ _) (xh.same x7 fun b y => row4.ne y)) fun b y => y.1)
  have rw' : Rep 0 E H7 162 (Fresh H5) t w := ((r6.mono (Nat.zero_le _) (Nat.le_succ _) (xh.same x7 fun b y => x5.r'.ne y)) fun b y => y.1)
  have rid : Room c' (3 * 162 + 2) := room.mono (by omega)
  repeat wtm_at "e1"
  refine id_all 162 rid rv rv fun b1 H8 e8 hb1 => ?_
  obtain rfl := hb1.mpr rfl
  refine ⟨true, rfl, ?_⟩
  refine ite_b (fun hb => (nomatch hb)) fun _ => ?_
  repeat wtm_at "e1"
  refine id_all 162 rid (rv.ext e8) (rw'.ext e8) fun b2 H9 e9 hb2 => ?_
  obtain rfl := hb2.mpr rfl
  refine ⟨true, rfl, ?_⟩
  refine ite_b (fun hb => (nomatch hb)) fun _ => ?_
  have e79 := e8.trans e9
  repeat wtm_at "e1"
  refine id_all 162 rid (rw'.ext e79) (rv.ext e79) fun b3 H10 e10 hb3 => ?_
  obtain rfl := hb3.mpr rfl
  refine ⟨true, rfl, ?_⟩
  refine ite_b (fun hb => (nomatch hb)) fun _ => ?_
  have e710 := e79.trans e10
  wtm_at "e1"
  refine ite_b (fun hb => (nomatch hb)) fun _ => ?_
  repeat wtm_at "e1"
  refine id_all 162 rid (rv.ext e710) (r7.ext e710) fun b4 H11 e11 hb4 => ?_
  obtain rfl : b4 = false := by
    cases b4 with
    | false => rfl
    | true => exact (tne (hb4.mp rfl).symm).elim
  refine ⟨false, rfl, ?_⟩
  refine ite_b (fun hb => (nomatch hb)) fun _ => ?_
  have e711 := e710.trans e11
  repeat wtm_at "e1"
  refine id_all 162 rid (r7.ext e711) (rw'.ext e711) fun b5 H12 e12 hb5 => ?_
  obtain rfl : b5 = false := by
    cases b5 with
    | false => rfl
    | true => exact (tne (hb5.mp rfl)).elim
  refine ⟨false, rfl, ?_⟩
  refine ite_b (fun hb => (nomatch hb)) fun _ => ?_
  wtm_at "e1"
  refine ite_b (fun hb => (nomatch hb)) fun _ => ?_
  have e712 := e711.trans e12
  have row12 := x7.r'.ext e712
  have hom12 := homes.go (x47.ext.ext e712) row4.nE
  clear rv rw' hb1 hb2 hb3 hb4 hb5 e8 e9 e79 e10 e710 e11 e711 e12 r5 r6 r7
  repeat wtm_at "e1"
  refine mk_Symbol (room.mono (by omega)) fun sf ts H13 e13 hsf ksf => ?_
  repeat wtm_at "e1"
  refine made_all 160 (room.mono (by omega)) (Nat.le_refl _) (row12.ext e13) (hom12.go (e13.toR R) row12.nE) fun tx vx H14 x14 rx => ?_
  have nRsf : sf ≠ R := row12.ne hsf
  have ksf4 := x14.ext.keep _ _ ksf nRsf
  repeat wtm_at "e1"
  refine we_newList (Nat.le_of_ble_eq_true rfl) fun lx hlx => ?_
  generalize hH15 : AH.put H14 lx _ = H15
  have e15 : Ext H14 H15 := hH15 ▸ Ext.refl.new hlx
  have klx := (congrFun hH15 lx).symm.trans put_self
  clear hH15
  repeat wtm_at "e1"
  refine we_newList (Nat.le_of_ble_eq_true rfl) fun lg hlg => ?_
  generalize hH16 : AH.put H15 lg _ = H16
  have e16 : Ext H15 H16 := hH16 ▸ Ext.refl.new hlg
  have klg := (congrFun hH16 lg).symm.trans put_self
  clear hH16
  have nlg : lx ≠ lg := (ne_of_none hlg klx).symm
  repeat wtm_at "e1"
  refine mk_Call2 (room.mono (by omega)) fun cx tc H17 e17 hcx kcx => ?_
  have e1417 := e15.trans (e16.trans e17)
  have hcx14 : H14 cx = none := e15.nn (e16.nn hcx)
  have hlg14 : H14 lg = none := e15.nn hlg
  have ch : ∀ {t : T} {v : Value} {S : Addr → Prop}, Rep 2 E H14 161 S t v → Rep 2 E H17 161 (fun b => H14 b ≠ none) t v := fun r => r.mono (Nat.le_refl _) (Nat.le_refl _) e1417.same fun b y => y.2
  have fsm : (Str.ofString "f").length ≤ 10 ∧ PyData.strOk (Str.ofString "f") = true := str_small (.inl rfl)
  have rsf : Rep 2 E H14 161 (fun _ => True) (.node .sym [.str (Str.ofString "f")] noI noA noA) (.ref sf) := show Node _ _ _ _ _ _ _ from .sym trivial ksf4 fun _ => fsm
  have kidc : Kids (Rep 2 E H17 161 (fun b => H14 b ≠ none)) [.ref sf, vx] _ := Kids.cons (Kids.cons (vs := []) (its := noI) ⟨fun i v h => by simp at h, fun _ _ => rfl⟩ (ch rx)) (ch rsf)
  have rcx : Rep 2 E H17 162 (fun b => H17 b ≠ none) (.node .call [.none, .none] _ noA noA) (.ref cx) := show Node _ _ _ _ _ _ _ from .call (fun b hb => e1417.live hb) (some_ne kcx) (some_ne ((e16.trans e17) _ _ klx)) (some_ne (e17 _ _ klg)) nlg (fun y => y hcx14) (fun y => y hlx) (fun y => y hlg14) kcx ((e16.trans e17) _ _ klx) (e17 _ _ klg) kidc (.cons .none (.cons .none .nil)) (Nat.le_of_ble_eq_true rfl) (Nat.le_of_ble_eq_true rfl) (fun _ => ⟨fun h => (nomatch h), rfl, _, rfl⟩) .none
  have hE17 : Homes9 E H17 := (hE9.go (x47.ext.ext (e712.trans e13)) row4.nE).go (x14.ext.ext e1417) row4.nE
  generalize hits : (fun i : Nat => match i with
    | 0 => T.node .sym [.str (Str.ofString "f")] noI noA noA
    | i + 1 => (fun i : Nat => match i with
      | 0 => tx
      | i + 1 => noI i) i) = its at rcx
  have its0 : its 0 = .node .sym [.str (Str.ofString "f")] noI noA noA := by rw [← hits]
  have htx : tx ≠ .no := fun h => by subst h; exact rx.ne
  have its1 : its 1 ≠ .no := by
    rw [← hits]
    exact htx
  clear hits kidc rsf ch fsm klx klg kcx hcx14 hlg14 nlg e15 e16 e17 e1417 ksf4 hlx hlg hcx rx x14 ksf hsf e13 row12 hom12
  repeat wtm_at "e1"
  refine again_all 162 (room.mono (by omega)) rcx hE17.live fun sv H18 e18 rsv => ?_
  exact after_next (law_end e room rcx rsv (fun b hb => hb) hE17.live e18 its0 its1 lk_here (by wtm_at "lk"))
theorem ints_len {vs : List Value} {ns : List Int} (h : IntsAre vs ns) : vs.length = ns.length ∧ ∀ v ∈ vs, ∃ i t, v = Value.int i t := by
  induction h with
  | nil => exact ⟨rfl, fun v h => nomatch h⟩
  | cons i t _ ih => exact ⟨by simp [ih.1], fun v hv => by
      rcases List.mem_cons.mp hv with rfl | hv
      · exact ⟨_, _, rfl⟩
      · exact ih.2 v hv⟩
theorem hc {d : DefRec} {kwd : List (Str × Expr)} (h1 : d.params = fArgs s26) (h2 : d.body = fBody s26) (h3 : d.scope = fScope s26) : WalkO vw [] (XL vw []) (Hook.says hk) lw.row.toRowW d kwd fun f vs => PySem.call f vs := by
  obtain ⟨dn, _, _, _, dp⟩ := d
  simp only at h1 h2 h3
  subst h1 h2 h3
  intro w s₀ s₁ mg mb G Y fa o pm cd doc dV kV ho hd hcd hD hmg hg args vals as hpre hlay hrd hwl hlo
  have KX : (K w.params).In s₁.heap := Y
  refine Ground.open G ?_
  intro T B D TE TW
  wrow_args hpre hlay hrd hwl hlo
  rename Heap.IsList _ _ _ => hL
  rename IntsAre _ _ => hI
  rename ¬ _ < _ => hlen
  refine enter_call ?_
  refine codeAny_mono ?_ (fun _ _ g => GoodW.toG g)
  have he := Dflts.none hD rfl
  subst he
  have hcell : ∀ x ∈ (fScope s26).names, x.2 ≠ .cell := fun x hx e => by
    have := List.all_eq_true.mp (by kernel_rfl : (fScope s26).names.all (fun x => x.2 != .cell) = true) x hx
    rw [e] at this
    cases this
  refine call_fullW (binds := [(Str.ofString "script", _)]) (by decide) ho hd (Top.nolimit T) hcd (BindsTo.of_eq rfl) (fun x hx => by rcases List.mem_singleton.mp hx with rfl; kernel_rfl) (fun h₁ F => ?_) rfl rfl rfl hcell
  generalize hEnv : envOf _ _ _ fa cd = env'
  have hkind : env'.scope.kind = .function := by rw [← hEnv]; rfl
  let c' : Cx K := { prog := lw.row.prog, w := w, A₀ := callerA, A := callerA.deeper env', base := s₁.heap, h₀ := s₁.heap, outer := [], fenv := env', env := env', L := s₁.heap.objs.size, p := vw, loose := looseW vw [], mg := mg, mb := mb, s₀ := s₁, below := below_caller s₁.heap, frames := Around.frames_deeper (below_caller s₁.heap).stack, frame := by rw [← hEnv]; rfl, kind := hkind, kin := KX, top := topRead_of T, hand := rfl, mods := ⟨_, KX 1 _ rfl⟩ }
  have I : Inv c' [(Str.ofString "script", Value.ref _)] (fun _ => none) { s₁ with heap := h₁, toks := s₁.toks + 1 } := ⟨⟨[], F, News.nil, fun a o h => nomatch h⟩, rfl, rfl, rfl⟩
  have eE : EnvIs c' (fScope s26) [] c'.L := by
    subst hEnv
    exact ⟨rfl, rfl, rfl, rfl, rfl⟩
  refine (law_body (c' := c') eE ⟨by show 1 + claimMargin + 1 + 600 ≤ 1000; decide, by show 7 + 4 * 600 + 100 ≤ 9900; decide⟩ (.inr hL) ?_ ?_).seqN I ?_
  · rw [(ints_len hI).1]; omega
  · exact (ints_len hI).2
  · intro f m' H' s' J q
    obtain ⟨news', F2, N2, L2⟩ := J.ex
    cases f with
    | ret v =>
      obtain rfl : v = .bool true := q
      exact goodW_bool F2 (J.rest.1.trans hg) (fun _ => rfl) (by wrow_post) J.rest.2.2
    | _ => cases q
end Mine
open Mine in
set_option maxRecDepth 100000 in
set_option maxHeartbeats 0 in
theorem PySem.Challenge.cw_nz0471_01_holds : PySem.Challenge.rw_nz0471_01.Holds := by
  rw [Mine.lw_is]
  refine holds_law Mine.said fun said => ?_
  refine holds_open (q := vw) (loose := []) (Xt := fun s => xlAt vw [] s && recOk (RowW.records lw.row.toRowW) s) (XP := XL vw []) (Yf := Hook.obs hk) (Ya := Hook.val hk) (YP := Hook.says hk) (N := 4846) ?hl (Hook.of hk) (Hook.keeps hk) (fun s e => xl_of s (Bool.and_eq_true_iff.mp e).1) XL.keeps (by rfl) (by rfl) (by rfl) (fun s e => recFacts_of (Bool.and_eq_true_iff.mp e).2) (by rfl) (by first | assumption | decide +kernel) (by decide +kernel) ⟨rfl, rfl, rfl, rfl, rfl, Mine.whole0⟩ ?hw ?hc
  case hl => exact Mine.head
  case hw => exact ⟨[.list []], by decide +kernel, by decide +kernel⟩
  case hc => exact Mine.hc rfl rfl rfl
