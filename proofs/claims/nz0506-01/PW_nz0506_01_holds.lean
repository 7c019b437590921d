import PyProof.Rows.All
import Wide.All
import OpenK.AllK
import Wide.FinOn
import Lean
import PySem.Challenge.RW_nz0506_01
open PySem PySem.W PyProof.Rows
set_option Elab.async false
set_option linter.unusedVariables false
set_option linter.unusedSimpArgs false
set_option compiler.extract_closed false
set_option maxRecDepth 100000
set_option maxHeartbeats 8000000
section
open PySem PySem.W PyProof.Rows PySem.Calls
set_option maxHeartbeats 8000000
namespace Mine
noncomputable def btOf : Nat → List Obj → BT → BT
  | _, [], t => t
  | n, o :: l, t => btOf (n + 1) l (t.ins n o)
noncomputable def runF (st : SharedT → Thread → Option (SharedT × Thread)) (ok : Thread → Bool) : Nat → SharedT → Thread → Option SharedT
  | 0, _, _ => none
  | n + 1, s, t => match through t with
    | true => some s
    | false => match ok t with
      | false => none
      | true => match st s t with
        | some (s', t') => runF st ok n s' t'
        | none => none
theorem runF_spec {tb : String → Option Builtin} {p : Program} {w : World} {n₀ : Nat} {ann : Option Value} : ∀ {n : Nat} {s s' : SharedT} {t : Thread}, runF (stepT (denote tb) p w) (stepOk n₀ ann) n s t = some s' → topRun tb p w n₀ ann n s.abs t = some s'.abs
  | 0, _, _, _, h => by cases h
  | n + 1, s, s', t, h => by
    unfold runF at h
    unfold topRun
    cases he : through t with
    | true => rw [he] at h; cases h; rfl
    | false =>
      rw [he] at h
      cases hk : stepOk n₀ ann t with
      | false => rw [hk] at h; cases h
      | true =>
        rw [hk] at h
        cases hs : stepT (denote tb) p w s t with
        | none => rw [hs] at h; cases h
        | some r => obtain ⟨s₂, t₂⟩ := r; rw [hs] at h; rw [stepT_spec hs]; exact runF_spec h
noncomputable def bootS (P : Params) (os : OsState) : SharedT := ⟨btOf 0 (boot_heap P).objs.toList .nil, 11, (boot_heap P).life, Array.mk [], boot_drawn, boot_toks, os⟩
theorem boot_abs (P : Params) (os : OsState) : (bootS P os).abs = ⟨boot_heap P, Array.mk [], boot_drawn, boot_toks, os⟩ := by kernel_rfl
theorem left_of {p q : Program} {loose : List Str} {Xt : Shared → Bool} {α : Type} {Yf : Shared → α} {Ya : World → α} {N : Nat} {g0 : Bool}
    (open_ : ∀ w : World, (fencedOpening treeTable p w N).map (fun s => (s.heap, s.gens, s.drawn, s.toks)) = some (boot_heap w.params, Array.mk [], boot_drawn, boot_toks))
    (size : ∀ w : World, ((boot_heap w.params).isNs mainGlobals && (Array.mk [] : Array GenState).size == 0, (boot_heap w.params).objs.size, (boot_heap w.params).nsMap mainGlobals "__annotations__") = (true, 11, some (.ref 6)))
    (run : ∀ (w : World) (os : OsState), (runF (stepT (denote treeTable) p w) (stepOk 11 (some (.ref 6))) N (bootS w.params os) (topStub p)).map (fun sT =>
        ((staticsOk (importedModules p.main.body) (boot_heap w.params) sT.abs.heap && namesBound p sT.abs.heap && gensDone sT.abs && laidKept (boot_heap w.params) sT.abs.heap),
        openSeen q loose (importedModules p.main.body) Xt g0 sT.abs, Yf sT.abs)) = some (true, openGood q loose, Ya w)) : LeftO p q loose Xt Yf Ya N g0 := fun w => by
  obtain ⟨⟨h, gs, d, k, os⟩, e, e'⟩ := Option.map_eq_some_iff.mp (open_ w)
  obtain ⟨rfl, rfl, rfl, rfl⟩ : h = boot_heap w.params ∧ gs = Array.mk [] ∧ d = boot_drawn ∧ k = boot_toks := by simpa using e'
  obtain ⟨z1, z2, z3⟩ : _ ∧ _ ∧ _ := by simpa only [Prod.mk.injEq] using size w
  obtain ⟨sT, r, l⟩ := Option.map_eq_some_iff.mp (run w os)
  obtain ⟨l1, l2, l3⟩ : _ ∧ _ ∧ _ := by simpa only [Prod.mk.injEq] using l
  have r := runF_spec r
  rw [boot_abs] at r
  have t : topFrom treeTable p w N ⟨boot_heap w.params, Array.mk [], boot_drawn, boot_toks, os⟩ = some sT.abs := by
    unfold topFrom
    dsimp only
    rw [z1, z2, z3, r]
    show (match staticsOk (importedModules p.main.body) (boot_heap w.params) sT.abs.heap && namesBound p sT.abs.heap && gensDone sT.abs && laidKept (boot_heap w.params) sT.abs.heap with | true => _ | false => _) = _
    rw [l1]
  unfold openEnds
  rw [e]
  show (topFrom treeTable p w N _).map _ = _
  rw [t]
  exact congrArg some (Prod.ext l2 l3)
end Mine
end
section
open PySem PySem.W PyProof.Rows PySem.Calls
set_option maxHeartbeats 8000000
namespace Mine
noncomputable def nthS : List Stmt → Nat → Stmt
  | [], _ => default
  | s :: _, 0 => s
  | _ :: l, n + 1 => nthS l n
noncomputable def st (i : Nat) : Stmt := nthS PySem.Challenge.pw_nz0506_01.main.body i
noncomputable def mth (i : Nat) (x : Nat) : Stmt := match st i with
  | .ClassDef _ _ _ b _ _ _ _ _ _ _ => nthS b x
  | _ => default
noncomputable def vs (x : String) (i : Nat) : Value := .str (Str.ofString x) i
noncomputable def fo (s : Stmt) (q m : String) (mi c : Nat) (d : Value) : Obj := match s with
  | .FunctionDef n ps b _ _ _ sc _ _ _ => { cls := .type "function", data := .func { name := n, qualname := Str.ofString q, params := ps, body := .stmts b, scope := sc, globals := 3, closure := [], defaults := d, kwdefaults := .none, pyModule := .str (Str.ofString m) mi, code := .ref c } }
  | _ => default
noncomputable def co (n q : String) (i line k r1 r2 : Nat) (r3 r4 : Value) (r5 i2 i3 : Nat) : Obj := { cls := .type "code", data := .fields #[vs n i, vs q (i + 1), vs "/claim/cut.py" (i + 2), .int line 0, .int k 0, .int 0 0, .int 0 0, .int 3 0, .ref r1, .bool true, .int 181 0, .ref r2, .none, r3, r4, .ref r5, .int i2 0, .int line 0, vs "/claim/cut.py" i3] }
noncomputable def de (P : Params) (x : String) (i : Nat) (v : Value) : DictEntry := ⟨PyData.keyHash P (Str.ofString x), .str (Str.ofString x) i, v⟩
noncomputable def hd.heap_39 (P : Params) : Frag :=
  (nat_lit 2, ⟨.none, none, .dict #[de P "type.__subclasses__.Exception.0" 242 (.int 55 0), de P "type.__subclasses__.Exception.n" 243 (.int 1 0)] 2, #[]⟩) ::
  (nat_lit 3, ⟨.type "dict", none, .dict #[de P "__name__" 165 (vs "law_nz0506_01" 962), de P "__doc__" 166 (.none), de P "__package__" 167 (.none), de P "__loader__" 168 (.builtin "__main__.__loader__#opaque"), de P "__spec__" 169 (.none), de P "__annotations__" 170 (.ref 6), de P "__builtins__" 171 (.ref 4), de P "__file__" 173 (vs "/claim/cut.py" 172), de P "__cached__" 174 (.none), de P "_wall" 193 (.ref 21), de P "get_attr" 203 (.ref 28), de P "names_of" 209 (.ref 33), de P "dim_of" 217 (.ref 40), de P "dimnames_of" 223 (.ref 45), de P "CoveError" 245 (.ref 55), de P "Refusal" 270 (.ref 75), de P "NAN" 275 (.ref 78), de P "INF" 278 (.ref 79), de P "ZERO" 281 (.ref 80), de P "gcd" 289 (.ref 87), de P "make" 298 (.ref 94), de P "from_int" 305 (.ref 101), de P "is_na" 312 (.ref 108), de P "is_finite" 319 (.ref 115), de P "neg" 326 (.ref 122), de P "to_whole" 334 (.ref 129), de P "nearest_whole" 344 (.ref 136), de P "exponent" 354 (.ref 143), de P "MOST_EXPONENT" 358 (.int 4096 357), de P "whole_text" 368 (.ref 150), de P "special_text" 375 (.ref 157), de P "scaled" 385 (.ref 164), de P "significant" 395 (.ref 171), de P "without_tail" 403 (.ref 178), de P "scientific_text" 415 (.ref 185), de P "fixed_text" 425 (.ref 192), de P "measures" 438 (.ref 199), de P "chosen_form" 455 (.ref 206), de P "formed" 464 (.ref 213), de P "common_texts" 470 (.ref 218), de P "number_text" 479 (.ref 226), de P "digits_value" 489 (.ref 233), de P "digit_run" 498 (.ref 240), de P "exponent_value" 507 (.ref 247), de P "powered" 516 (.ref 254), de P "unsigned_number" 535 (.ref 261), de P "parse_number" 547 (.ref 268), de P "Null" 578 (.ref 285), de P "Vector" 620 (.ref 314), de P "null" 626 (.ref 325), de P "character" 633 (.ref 332), de P "named" 641 (.ref 339), de P "length" 649 (.ref 346), de P "is_vector" 656 (.ref 353), de P "is_atomic" 663 (.ref 360), de P "share" 670 (.ref 367), de P "MOST_INTEGER" 674 (.int 2147483647 673), de P "kind_order" 682 (.ref 374), de P "common_kind" 692 (.ref 381), de P "note" 700 (.ref 388), de P "as_logical_text" 707 (.ref 395), de P "double_to_integer" 716 (.ref 402), de P "text_to_double" 726 (.ref 409), de P "to_logical" 734 (.ref 416), de P "to_integer" 743 (.ref 423), de P "to_double" 752 (.ref 430), de P "to_text" 760 (.ref 437), de P "item_as" 770 (.ref 444), de P "is_atomic_kind" 777 (.ref 451), de P "list_item_as" 787 (.ref 458), de P "refuse_type" 795 (.ref 465), de P "as_vector_kind" 801 (.ref 470), de P "with_names" 809 (.ref 477), de P "as_kind" 815 (.ref 482), de P "NameRow" 847 (.ref 499), de P "opens" 855 (.ref 510), de P "count_leaves" 865 (.ref 517), de P "joined_base" 873 (.ref 524), de P "leaf_name" 882 (.ref 531), de P "plain_names" 888 (.ref 536), de P "extract_names" 904 (.ref 543), de P "has_names" 913 (.ref 550), de P "joined_names" 925 (.ref 557), de P "gather" 935 (.ref 564), de P "part_items" 943 (.ref 571), de P "combine" 949 (.ref 576), de P "unlisted" 961 (.ref 583), de P "_law_digits" 974 (.ref 590), de P "_law_draw" 982 (.ref 597), de P "_law_names" 988 (.ref 602), de P "_law_value" 994 (.ref 607), de P "_law_built" 1000 (.ref 612), de P "_law_leaves" 1017 (.ref 619), de P "_law_text" 1025 (.ref 626), de P "_law_as" 1034 (.ref 633), de P "_law_kinds" 1040 (.ref 638), de P "_law_has" 1046 (.ref 643), de P "_law_name" 1059 (.ref 650), de P "_law_same" 1065 (.ref 655), de P "_law_due" 1071 (.ref 660), de P "_law_alike" 1079 (.ref 667), de P "law" 1085 (.ref 672)] 102, #[]⟩) ::
  (nat_lit 27, co "get_attr" "get_attr" 196 5 2 22 23 (.ref 24) (.ref 25) 26 201 202) ::
  (nat_lit 28, fo (st 2) "get_attr" "vectorcove.attrs" 194 27 .none) ::
  (nat_lit 32, co "names_of" "names_of" 204 9 1 29 30 .none .none 31 207 208) ::
  (nat_lit 33, fo (st 3) "names_of" "vectorcove.attrs" 194 32 .none) ::
  (nat_lit 39, co "dim_of" "dim_of" 210 25 1 34 35 (.ref 36) (.ref 37) 38 215 216) ::
  (nat_lit 40, fo (st 4) "dim_of" "vectorcove.attrs" 194 39 .none) ::
  (nat_lit 86, co "gcd" "gcd" 282 46 2 81 82 (.ref 83) (.ref 84) 85 287 288) ::
  (nat_lit 87, fo (st 13) "gcd" "vectorcove.rational" 271 86 .none) ::
  (nat_lit 100, co "from_int" "from_int" 299 60 1 95 96 (.ref 97) (.ref 98) 99 303 304) ::
  (nat_lit 101, fo (st 15) "from_int" "vectorcove.rational" 271 100 .none) ::
  (nat_lit 135, co "nearest_whole" "nearest_whole" 335 77 2 130 131 (.ref 132) (.ref 133) 134 342 343) ::
  (nat_lit 136, fo (st 20) "nearest_whole" "vectorcove.rational" 271 135 .none) ::
  (nat_lit 142, co "exponent" "exponent" 345 83 1 137 138 (.ref 139) (.ref 140) 141 352 353) ::
  (nat_lit 143, fo (st 21) "exponent" "vectorcove.rational" 271 142 .none) ::
  (nat_lit 149, co "whole_text" "whole_text" 359 96 1 144 145 (.ref 146) (.ref 147) 148 366 367) ::
  (nat_lit 150, fo (st 24) "whole_text" "vectorcove.numtext" 355 149 .none) ::
  (nat_lit 156, co "special_text" "special_text" 369 107 1 151 152 (.ref 153) (.ref 154) 155 373 374) ::
  (nat_lit 157, fo (st 25) "special_text" "vectorcove.numtext" 355 156 .none) ::
  (nat_lit 163, co "scaled" "scaled" 376 115 3 158 159 (.ref 160) (.ref 161) 162 383 384) ::
  (nat_lit 164, fo (st 26) "scaled" "vectorcove.numtext" 355 163 .none) ::
  (nat_lit 170, co "significant" "significant" 386 120 2 165 166 (.ref 167) (.ref 168) 169 393 394) ::
  (nat_lit 171, fo (st 27) "significant" "vectorcove.numtext" 355 170 .none) ::
  (nat_lit 177, co "without_tail" "without_tail" 396 129 1 172 173 (.ref 174) (.ref 175) 176 401 402) ::
  (nat_lit 178, fo (st 28) "without_tail" "vectorcove.numtext" 355 177 .none) ::
  (nat_lit 191, co "fixed_text" "fixed_text" 416 141 2 186 187 (.ref 188) (.ref 189) 190 423 424) ::
  (nat_lit 192, fo (st 30) "fixed_text" "vectorcove.numtext" 355 191 .none) ::
  (nat_lit 198, co "measures" "measures" 426 149 2 193 194 (.ref 195) (.ref 196) 197 436 437) ::
  (nat_lit 199, fo (st 31) "measures" "vectorcove.numtext" 355 198 .none) ::
  (nat_lit 205, co "chosen_form" "chosen_form" 439 156 2 200 201 (.ref 202) (.ref 203) 204 453 454) ::
  (nat_lit 206, fo (st 32) "chosen_form" "vectorcove.numtext" 355 205 .none) ::
  (nat_lit 212, co "formed" "formed" 456 176 2 207 208 (.ref 209) (.ref 210) 211 462 463) ::
  (nat_lit 213, fo (st 33) "formed" "vectorcove.numtext" 355 212 .none) ::
  (nat_lit 217, co "common_texts" "common_texts" 465 183 2 214 215 .none .none 216 468 469) ::
  (nat_lit 218, fo (st 34) "common_texts" "vectorcove.numtext" 355 217 .none) ::
  (nat_lit 219, ({ cls := .type "tuple", data := .seq #[.int 7 471] } : Obj)) ::
  (nat_lit 225, co "number_text" "number_text" 472 187 2 220 221 (.ref 222) (.ref 223) 224 477 478) ::
  (nat_lit 226, fo (st 35) "number_text" "vectorcove.numtext" 355 225 (.ref 219)) ::
  (nat_lit 281, co "__init__" "Null.__init__" 562 270 1 276 277 (.ref 278) (.ref 279) 280 566 567) ::
  (nat_lit 282, fo (mth 43 0) "Null.__init__" "vectorcove.values" 548 281 .none) ::
  (nat_lit 284, ⟨.type "dict", none, .dict #[de P "__module__" 557 (vs "vectorcove.values" 548), de P "__firstlineno__" 561 (.int 268 560), de P "__init__" 568 (.ref 282), de P "__static_attributes__" 571 (.ref 283), de P "__dict__" 573 (.ref 286), de P "__weakref__" 575 (.ref 287), de P "__doc__" 576 (.none)] 4, #[]⟩) ::
  (nat_lit 285, ({ cls := .type "type", data := .cls { name := Str.ofString "Null", bases := [.type "object"], mro := [.ref 285, .type "object"], ns := 284, qualname := Str.ofString "Null" }, slots := #[none, none, some ((vs "Null" 550)), some ((vs "Null" 558)), some (.builtin "object.__new__"), some (.bool true)] } : Obj)) ::
  (nat_lit 297, ({ cls := .type "tuple", data := .seq #[.none] } : Obj)) ::
  (nat_lit 303, co "__init__" "Vector.__init__" 591 275 4 298 299 (.ref 300) (.ref 301) 302 598 599) ::
  (nat_lit 304, fo (mth 44 0) "Vector.__init__" "vectorcove.values" 548 303 (.ref 297)) ::
  (nat_lit 310, co "copy" "Vector.copy" 601 282 1 305 306 (.ref 307) (.ref 308) 309 605 606) ::
  (nat_lit 311, fo (mth 44 1) "Vector.copy" "vectorcove.values" 548 310 .none) ::
  (nat_lit 313, ⟨.type "dict", none, .dict #[de P "__module__" 586 (vs "vectorcove.values" 548), de P "__firstlineno__" 590 (.int 273 589), de P "__init__" 600 (.ref 304), de P "copy" 607 (.ref 311), de P "__static_attributes__" 613 (.ref 312), de P "__dict__" 615 (.ref 315), de P "__weakref__" 617 (.ref 316), de P "__doc__" 618 (.none)] 4, #[]⟩) ::
  (nat_lit 314, ({ cls := .type "type", data := .cls { name := Str.ofString "Vector", bases := [.type "object"], mro := [.ref 314, .type "object"], ns := 313, qualname := Str.ofString "Vector" }, slots := #[none, none, some ((vs "Vector" 579)), some ((vs "Vector" 587)), some (.builtin "object.__new__"), some (.bool true)] } : Obj)) ::
  (nat_lit 324, co "null" "null" 621 284 0 319 320 (.ref 321) (.ref 322) 323 624 625) ::
  (nat_lit 325, fo (st 45) "null" "vectorcove.values" 548 324 .none) ::
  (nat_lit 331, co "character" "character" 627 286 1 326 327 (.ref 328) (.ref 329) 330 631 632) ::
  (nat_lit 332, fo (st 46) "character" "vectorcove.values" 548 331 .none) ::
  (nat_lit 338, co "named" "named" 634 288 2 333 334 (.ref 335) (.ref 336) 337 639 640) ::
  (nat_lit 339, fo (st 47) "named" "vectorcove.values" 548 338 .none) ::
  (nat_lit 352, co "is_vector" "is_vector" 650 303 1 347 348 (.ref 349) (.ref 350) 351 654 655) ::
  (nat_lit 353, fo (st 49) "is_vector" "vectorcove.values" 548 352 .none) ::
  (nat_lit 366, co "share" "share" 664 307 1 361 362 (.ref 363) (.ref 364) 365 668 669) ::
  (nat_lit 367, fo (st 51) "share" "vectorcove.values" 548 366 .none) ::
  (nat_lit 373, co "kind_order" "kind_order" 675 313 1 368 369 (.ref 370) (.ref 371) 372 680 681) ::
  (nat_lit 374, fo (st 54) "kind_order" "vectorcove.coerce" 671 373 .none) ::
  (nat_lit 380, co "common_kind" "common_kind" 683 318 1 375 376 (.ref 377) (.ref 378) 379 690 691) ::
  (nat_lit 381, fo (st 55) "common_kind" "vectorcove.coerce" 671 380 .none) ::
  (nat_lit 422, co "to_integer" "to_integer" 735 357 3 417 418 (.ref 419) (.ref 420) 421 741 742) ::
  (nat_lit 423, fo (st 61) "to_integer" "vectorcove.coerce" 671 422 .none) ::
  (nat_lit 429, co "to_double" "to_double" 744 365 3 424 425 (.ref 426) (.ref 427) 428 750 751) ::
  (nat_lit 430, fo (st 62) "to_double" "vectorcove.coerce" 671 429 .none) ::
  (nat_lit 436, co "to_text" "to_text" 753 371 2 431 432 (.ref 433) (.ref 434) 435 758 759) ::
  (nat_lit 437, fo (st 63) "to_text" "vectorcove.coerce" 671 436 .none) ::
  (nat_lit 443, co "item_as" "item_as" 761 379 4 438 439 (.ref 440) (.ref 441) 442 768 769) ::
  (nat_lit 444, fo (st 64) "item_as" "vectorcove.coerce" 671 443 .none) ::
  (nat_lit 450, co "is_atomic_kind" "is_atomic_kind" 771 393 1 445 446 (.ref 447) (.ref 448) 449 775 776) ::
  (nat_lit 451, fo (st 65) "is_atomic_kind" "vectorcove.coerce" 671 450 .none) ::
  (nat_lit 476, co "with_names" "with_names" 802 417 2 471 472 (.ref 473) (.ref 474) 475 807 808) ::
  (nat_lit 477, fo (st 69) "with_names" "vectorcove.coerce" 671 476 .none) ::
  (nat_lit 481, co "as_kind" "as_kind" 810 421 3 478 479 .none .none 480 813 814) ::
  (nat_lit 482, fo (st 70) "as_kind" "vectorcove.coerce" 671 481 .none) ::
  (nat_lit 495, co "__init__" "NameRow.__init__" 830 431 1 490 491 (.ref 492) (.ref 493) 494 834 835) ::
  (nat_lit 496, fo (mth 72 0) "NameRow.__init__" "vectorcove.combine" 816 495 .none) ::
  (nat_lit 498, ⟨.type "dict", none, .dict #[de P "__module__" 825 (vs "vectorcove.combine" 816), de P "__firstlineno__" 829 (.int 429 828), de P "__init__" 836 (.ref 496), de P "__static_attributes__" 840 (.ref 497), de P "__dict__" 842 (.ref 500), de P "__weakref__" 844 (.ref 501), de P "__doc__" 845 (.none)] 4, #[]⟩) ::
  (nat_lit 499, ({ cls := .type "type", data := .cls { name := Str.ofString "NameRow", bases := [.type "object"], mro := [.ref 499, .type "object"], ns := 498, qualname := Str.ofString "NameRow" }, slots := #[none, none, some ((vs "NameRow" 818)), some ((vs "NameRow" 826)), some (.builtin "object.__new__"), some (.bool true)] } : Obj)) ::
  (nat_lit 509, co "opens" "opens" 848 435 2 504 505 (.ref 506) (.ref 507) 508 853 854) ::
  (nat_lit 510, fo (st 73) "opens" "vectorcove.combine" 816 509 .none) ::
  (nat_lit 516, co "count_leaves" "count_leaves" 856 437 2 511 512 (.ref 513) (.ref 514) 515 863 864) ::
  (nat_lit 517, fo (st 74) "count_leaves" "vectorcove.combine" 816 516 .none) ::
  (nat_lit 523, co "joined_base" "joined_base" 866 448 2 518 519 (.ref 520) (.ref 521) 522 871 872) ::
  (nat_lit 524, fo (st 75) "joined_base" "vectorcove.combine" 816 523 .none) ::
  (nat_lit 530, co "leaf_name" "leaf_name" 874 454 3 525 526 (.ref 527) (.ref 528) 529 880 881) ::
  (nat_lit 531, fo (st 76) "leaf_name" "vectorcove.combine" 816 530 .none) ::
  (nat_lit 535, co "plain_names" "plain_names" 883 460 1 532 533 .none .none 534 886 887) ::
  (nat_lit 536, fo (st 77) "plain_names" "vectorcove.combine" 816 535 .none) ::
  (nat_lit 542, co "extract_names" "extract_names" 889 465 5 537 538 (.ref 539) (.ref 540) 541 902 903) ::
  (nat_lit 543, fo (st 78) "extract_names" "vectorcove.combine" 816 542 .none) ::
  (nat_lit 549, co "has_names" "has_names" 905 487 2 544 545 (.ref 546) (.ref 547) 548 911 912) ::
  (nat_lit 550, fo (st 79) "has_names" "vectorcove.combine" 816 549 .none) ::
  (nat_lit 556, co "joined_names" "joined_names" 914 497 2 551 552 (.ref 553) (.ref 554) 555 923 924) ::
  (nat_lit 557, fo (st 80) "joined_names" "vectorcove.combine" 816 556 .none) ::
  (nat_lit 563, co "gather" "gather" 926 507 3 558 559 (.ref 560) (.ref 561) 562 933 934) ::
  (nat_lit 564, fo (st 81) "gather" "vectorcove.combine" 816 563 .none) ::
  (nat_lit 570, co "part_items" "part_items" 936 515 2 565 566 (.ref 567) (.ref 568) 569 941 942) ::
  (nat_lit 571, fo (st 82) "part_items" "vectorcove.combine" 816 570 .none) ::
  (nat_lit 575, co "combine" "combine" 944 519 3 572 573 .none .none 574 947 948) ::
  (nat_lit 576, fo (st 83) "combine" "vectorcove.combine" 816 575 .none) ::
  (nat_lit 582, co "unlisted" "unlisted" 950 533 2 577 578 (.ref 579) (.ref 580) 581 959 960) ::
  (nat_lit 583, fo (st 84) "unlisted" "vectorcove.combine" 816 582 .none) ::
  (nat_lit 589, co "_law_digits" "_law_digits" 964 545 1 584 585 (.ref 586) (.ref 587) 588 972 973) ::
  (nat_lit 590, fo (st 86) "_law_digits" "law_nz0506_01" 962 589 .none) ::
  (nat_lit 596, co "_law_draw" "_law_draw" 975 556 2 591 592 (.ref 593) (.ref 594) 595 980 981) ::
  (nat_lit 597, fo (st 87) "_law_draw" "law_nz0506_01" 962 596 .none) ::
  (nat_lit 601, co "_law_names" "_law_names" 983 558 2 598 599 .none .none 600 986 987) ::
  (nat_lit 602, fo (st 88) "_law_names" "law_nz0506_01" 962 601 .none) ::
  (nat_lit 606, co "_law_value" "_law_value" 989 562 2 603 604 .none .none 605 992 993) ::
  (nat_lit 607, fo (st 89) "_law_value" "law_nz0506_01" 962 606 .none) ::
  (nat_lit 611, co "_law_built" "_law_built" 995 584 1 608 609 .none .none 610 998 999) ::
  (nat_lit 612, fo (st 90) "_law_built" "law_nz0506_01" 962 611 .none) ::
  (nat_lit 618, co "_law_leaves" "_law_leaves" 1001 594 5 613 614 (.ref 615) (.ref 616) 617 1015 1016) ::
  (nat_lit 619, fo (st 91) "_law_leaves" "law_nz0506_01" 962 618 .none) ::
  (nat_lit 625, co "_law_text" "_law_text" 1018 609 2 620 621 (.ref 622) (.ref 623) 624 1023 1024) ::
  (nat_lit 626, fo (st 92) "_law_text" "law_nz0506_01" 962 625 .none) ::
  (nat_lit 632, co "_law_as" "_law_as" 1026 617 3 627 628 (.ref 629) (.ref 630) 631 1032 1033) ::
  (nat_lit 633, fo (st 93) "_law_as" "law_nz0506_01" 962 632 .none) ::
  (nat_lit 637, co "_law_kinds" "_law_kinds" 1035 625 2 634 635 .none .none 636 1038 1039) ::
  (nat_lit 638, fo (st 94) "_law_kinds" "law_nz0506_01" 962 637 .none) ::
  (nat_lit 642, co "_law_has" "_law_has" 1041 631 2 639 640 .none .none 641 1044 1045) ::
  (nat_lit 643, fo (st 95) "_law_has" "law_nz0506_01" 962 642 .none) ::
  (nat_lit 649, co "_law_name" "_law_name" 1047 637 2 644 645 (.ref 646) (.ref 647) 648 1057 1058) ::
  (nat_lit 650, fo (st 96) "_law_name" "law_nz0506_01" 962 649 .none) ::
  (nat_lit 654, co "_law_same" "_law_same" 1060 645 2 651 652 .none .none 653 1063 1064) ::
  (nat_lit 655, fo (st 97) "_law_same" "law_nz0506_01" 962 654 .none) ::
  (nat_lit 659, co "_law_due" "_law_due" 1066 655 3 656 657 .none .none 658 1069 1070) ::
  (nat_lit 660, fo (st 98) "_law_due" "law_nz0506_01" 962 659 .none) ::
  (nat_lit 666, co "_law_alike" "_law_alike" 1072 673 2 661 662 (.ref 663) (.ref 664) 665 1077 1078) ::
  (nat_lit 667, fo (st 99) "_law_alike" "law_nz0506_01" 962 666 .none) ::
  (nat_lit 671, co "law" "law" 1080 677 1 668 669 .none .none 670 1083 1084) ::
  (nat_lit 672, fo (st 100) "law" "law_nz0506_01" 962 671 .none) :: []
noncomputable def hKs : List Addr := [2, 3, 27, 28, 32, 33, 39, 40, 86, 87, 100, 101, 135, 136, 142, 143, 149, 150, 156, 157, 163, 164, 170, 171, 177, 178, 191, 192, 198, 199, 205, 206, 212, 213, 217, 218, 219, 225, 226, 281, 282, 284, 285, 297, 303, 304, 310, 311, 313, 314, 324, 325, 331, 332, 338, 339, 352, 353, 366, 367, 373, 374, 380, 381, 422, 423, 429, 430, 436, 437, 443, 444, 450, 451, 476, 477, 481, 482, 495, 496, 498, 499, 509, 510, 516, 517, 523, 524, 530, 531, 535, 536, 542, 543, 549, 550, 556, 557, 563, 564, 570, 571, 575, 576, 582, 583, 589, 590, 596, 597, 601, 602, 606, 607, 611, 612, 618, 619, 625, 626, 632, 633, 637, 638, 642, 643, 649, 650, 654, 655, 659, 660, 666, 667, 671, 672]
end Mine
end
section
open PySem PySem.W PyProof.Rows PySem.Calls
set_option maxHeartbeats 8000000
namespace Mine
noncomputable def q39 : Program := view PySem.Challenge.rw_nz0506_01.row.prog [100]
noncomputable def lo : List Str := ["_wall", "get_attr", "names_of", "dim_of", "dimnames_of", "CoveError", "Refusal", "NAN", "INF", "ZERO", "gcd", "make", "from_int", "is_na", "is_finite", "neg", "to_whole", "nearest_whole", "exponent", "MOST_EXPONENT", "whole_text", "special_text", "scaled", "significant", "without_tail", "scientific_text", "fixed_text", "measures", "chosen_form", "formed", "common_texts", "number_text", "digits_value", "digit_run", "exponent_value", "powered", "unsigned_number", "parse_number", "Null", "Vector", "null", "character", "named", "length", "is_vector", "is_atomic", "share", "MOST_INTEGER", "kind_order", "common_kind", "note", "as_logical_text", "double_to_integer", "text_to_double", "to_logical", "to_integer", "to_double", "to_text", "item_as", "is_atomic_kind", "list_item_as", "refuse_type", "as_vector_kind", "with_names", "as_kind", "NameRow", "opens", "count_leaves", "joined_base", "leaf_name", "plain_names", "extract_names", "has_names", "joined_names", "gather", "part_items", "combine", "unlisted", "_law_digits", "_law_draw", "_law_names", "_law_value", "_law_built", "_law_leaves", "_law_text", "_law_as", "_law_kinds", "_law_has", "_law_name", "_law_same", "_law_due", "_law_alike"].map Str.ofString
noncomputable def hk : Hook := kHook hd.heap_39 hKs (fun _ => by kernel_rfl)
theorem opens_ (w : World) : (fencedOpening treeTable PySem.Challenge.rw_nz0506_01.row.prog w 8000).map (fun s => (s.heap, s.gens, s.drawn, s.toks)) = some (boot_heap w.params, Array.mk [], boot_drawn, boot_toks) :=
  boot_open (by kernel_rfl) (by rfl) (fun s => by kernel_rfl) w
theorem size_ (w : World) : ((boot_heap w.params).isNs mainGlobals && (Array.mk [] : Array GenState).size == 0, (boot_heap w.params).objs.size, (boot_heap w.params).nsMap mainGlobals "__annotations__") = (true, 11, some (.ref 6)) := by
  rw [show @Heap.nsMap = _ from PySem.W.Fast.te8920871248978507458]
  kernel_rfl
noncomputable abbrev xt (s : Shared) : Bool := xlAt q39 [] s && recOk PySem.Challenge.rw_nz0506_01.row.toRowW.records s
noncomputable abbrev RUN (w : World) (os : OsState) := runF (stepT (denote treeTable) PySem.Challenge.rw_nz0506_01.row.prog w) (stepOk 11 (some (.ref 6))) 8000 (bootS w.params os) (topStub PySem.Challenge.rw_nz0506_01.row.prog)
theorem run_a (w : World) (os : OsState) : ((RUN w os).map fun sT => ((staticsOk (importedModules PySem.Challenge.rw_nz0506_01.row.prog.main.body) (boot_heap w.params) sT.abs.heap && namesBound PySem.Challenge.rw_nz0506_01.row.prog sT.abs.heap && gensDone sT.abs && laidKept (boot_heap w.params) sT.abs.heap), openSeen q39 lo (importedModules PySem.Challenge.rw_nz0506_01.row.prog.main.body) xt true sT.abs)) = some (true, openGood q39 lo) := by
  unfold RUN
  rw [show @stepT = _ from PySem.W.Fast.te10156331382660048174, show @denote = _ from PySem.W.Fast.te11892475500146522536, show treeTable = _ from PySem.W.Fast.te14364793385576792824, show @stepOk = _ from PySem.W.Fast.te6613529449190102663, show @openSeen = _ from PySem.W.Fast.te4187177175401517315, show @importedModules = _ from PySem.W.Fast.te5923862056798008813]
  kernel_rfl
theorem run_c (w : World) (os : OsState) : ((RUN w os).map fun sT => hk.obs sT.abs) = some (hk.val w) := by
  unfold RUN
  rw [show @stepT = _ from PySem.W.Fast.te10156331382660048174, show @denote = _ from PySem.W.Fast.te11892475500146522536, show treeTable = _ from PySem.W.Fast.te14364793385576792824, show @stepOk = _ from PySem.W.Fast.te6613529449190102663]
  kernel_rfl
theorem map3 {σ α β γ : Type} {o : Option σ} {f : σ → α} {g : σ → β} {h : σ → γ} {a : α} {b : β} {c : γ} (e1 : (o.map fun s => (f s, g s)) = some (a, b)) (e3 : o.map h = some c) : o.map (fun s => (f s, g s, h s)) = some (a, b, c) := by
  cases o with
  | none => cases e3
  | some s => cases e1; cases e3; rfl
theorem run_ (w : World) (os : OsState) : (runF (stepT (denote treeTable) PySem.Challenge.rw_nz0506_01.row.prog w) (stepOk 11 (some (.ref 6))) 8000 (bootS w.params os) (topStub PySem.Challenge.rw_nz0506_01.row.prog)).map (fun sT =>
        ((staticsOk (importedModules PySem.Challenge.rw_nz0506_01.row.prog.main.body) (boot_heap w.params) sT.abs.heap && namesBound PySem.Challenge.rw_nz0506_01.row.prog sT.abs.heap && gensDone sT.abs && laidKept (boot_heap w.params) sT.abs.heap),
        openSeen q39 lo (importedModules PySem.Challenge.rw_nz0506_01.row.prog.main.body) xt true sT.abs, hk.obs sT.abs)) = some (true, openGood q39 lo, hk.val w) := map3 (run_a w os) (run_c w os)
theorem left_ : LeftO PySem.Challenge.rw_nz0506_01.row.prog q39 lo xt hk.obs hk.val 8000 := left_of opens_ size_ run_
end Mine
end
section
open PySem PySem.W PyProof.Rows PySem.Calls
set_option maxHeartbeats 8000000
namespace Mine
theorem def_some : ((defOf q39 PySem.Challenge.rw_nz0506_01.row.name).isSome) = true := by kernel_rfl
noncomputable def dk : DefRec × List (Str × Expr) := (defOf q39 PySem.Challenge.rw_nz0506_01.row.name).get def_some
theorem hd.dk_of : defOf q39 PySem.Challenge.rw_nz0506_01.row.name = some (dk.1, dk.2) := by
  show _ = some dk
  unfold dk
  rw [Option.some_get]
theorem hd.the : PySem.Challenge.rw_nz0506_01.row.prog.theDef PySem.Challenge.rw_nz0506_01.row.name = some (dk.1.params, dk.1.body, dk.1.scope) := by kernel_rfl
theorem hd.kw : kwWritten? dk.1.params.kwonlyargs dk.1.params.kw_defaults = some dk.2 := by kernel_rfl
theorem both {a b : Bool} (ha : a = true) (hb : b = true) : (a && b) = true := by rw [ha, hb]; rfl
theorem said_open : looksOpen PySem.Challenge.rw_nz0506_01.row.prog = true := by
  unfold looksOpen
  repeat' (with_reducible refine both ?_ ?_)
  all_goals decide +kernel
theorem said_row : PySem.Challenge.rw_nz0506_01.row.wellSaid = true := by
  unfold OpenRow.wellSaid OpenRow.partSaid
  repeat' (first | with_reducible exact said_open | with_reducible refine both ?_ ?_)
  all_goals decide +kernel
theorem said : PySem.Challenge.rw_nz0506_01.wellSaid = true := by
  unfold OpenLaw.wellSaid
  repeat' (first | with_reducible exact said_row | with_reducible refine both ?_ ?_)
  all_goals decide +kernel
theorem hd (call : W.WalkO q39 lo (XL q39 []) hk.says PySem.Challenge.rw_nz0506_01.row.toRowW dk.1 dk.2 fun f vs => PySem.call f vs) : PySem.Challenge.rw_nz0506_01.Holds := by
  w_on
  exact holds_law said fun k1 => W.holds_open left_ (Hook.of hk) (Hook.keeps hk) (fun s e => xl_of s (Bool.and_eq_true_iff.mp e).1) XL.keeps hd.dk_of hd.the hd.kw (fun s e => recFacts_of (Bool.and_eq_true_iff.mp e).2) (by rfl) k1 (by decide +kernel) ⟨rfl, rfl, rfl, rfl, rfl, by decide +kernel⟩ ⟨[WData.list []], by decide +kernel, by decide +kernel⟩ call
end Mine
end
namespace Mine
/-! abstract values, objects, heaps -/
inductive AV where
  | none | bool (b : Bool) | int (i : Int) | str (s : Str) | ref (a : Addr) | bi (id : String) | ty (n : String) | other
noncomputable def abs : Value → AV
  | .none => .none | .bool b => .bool b | .int i _ => .int i | .str s _ => .str s | .ref a => .ref a | .builtin i => .bi i | .type n => .ty n | _ => .other
theorem abs_none {v : Value} (h : abs v = .none) : v = .none := by cases v <;> first | rfl | cases h
theorem abs_bool {v : Value} {b} (h : abs v = .bool b) : v = .bool b := by cases v <;> first | (cases h; rfl) | cases h
theorem abs_int {v : Value} {i} (h : abs v = .int i) : ∃ t, v = .int i t := by cases v <;> first | (cases h; exact ⟨_, rfl⟩) | cases h
theorem abs_str {v : Value} {i} (h : abs v = .str i) : ∃ t, v = .str i t := by cases v <;> first | (cases h; exact ⟨_, rfl⟩) | cases h
theorem abs_ref {v : Value} {i} (h : abs v = .ref i) : v = .ref i := by cases v <;> first | (cases h; rfl) | cases h
theorem abs_bi {v : Value} {i} (h : abs v = .bi i) : v = .builtin i := by cases v <;> first | (cases h; rfl) | cases h
theorem abs_ty {v : Value} {i} (h : abs v = .ty i) : v = .type i := by cases v <;> first | (cases h; rfl) | cases h
inductive AObj where
  | list (xs : List AV) | tup (xs : List AV) | dict (es : List (Str × AV)) | inst (C d : Addr) | rng (n : Nat)
noncomputable abbrev AH := Addr → Option AObj
noncomputable def upd (H : AH) (a : Addr) (o : AObj) : AH := fun b => if b = a then some o else H b
theorem upd_same (H : AH) (a : Addr) (o : AObj) : upd H a o a = some o := if_pos rfl
theorem upd_ne (H : AH) {a b : Addr} (o : AObj) (h : b ≠ a) : upd H a o b = H b := if_neg h
structure St where
  H : AH
  m : Str → Option AV
noncomputable def put (m : Str → Option AV) (x : Str) (v : AV) : Str → Option AV := fun y => if y = x then some v else m y
noncomputable def absE (e : DictEntry) : Int × AV × AV := (e.hash, abs e.key, abs e.val)
noncomputable def absK (P : Params) (p : Str × AV) : Int × AV × AV := (PyData.keyHash P p.1, .str p.1, p.2)
noncomputable def ORel (P : Params) : AObj → Obj → Prop
  | .list xs, o => ∃ vs n, o = { cls := .type "list", dict := none, data := .seq vs n, slots := #[] } ∧ vs.toList.map abs = xs
  | .tup xs, o => ∃ vs n, o = { cls := .type "tuple", dict := none, data := .seq vs n, slots := #[] } ∧ vs.toList.map abs = xs
  | .dict es, o => ∃ ds n, o = { cls := .type "dict", dict := none, data := .dict ds n, slots := #[] } ∧ ds.toList.map absE = es.map (absK P)
  | .inst C d, o => o = instObj C d
  | .rng n, o => ∃ t u v, o = { cls := .type "range", dict := none, data := .fields #[.int 0 t, .int n u, .int 1 v], slots := #[] }
theorem ORel.notFreed {P : Params} {o : AObj} {ob : Obj} (h : ORel P o ob) : ob.isFreed = false := by
  cases o with
  | list => obtain ⟨_, _, rfl, _⟩ := h; rfl
  | tup => obtain ⟨_, _, rfl, _⟩ := h; rfl
  | dict => obtain ⟨_, _, rfl, _⟩ := h; rfl
  | inst => cases h; rfl
  | rng => obtain ⟨_, _, _, rfl⟩ := h; rfl
/-- the fixed things: program, world, the heap at the law's call -/
structure Md where
  prog : Program
  w : World
  hT : Heap
  K : Frag
  mg : Str → Option Value
  mb : Str → Option Value
  lim : hT.NoLimit
structure Gd (G : Md) : Prop where
  X : G.K.In G.hT
  g : G.hT.Ns mainGlobals G.mg
  b : G.hT.Ns builtinsNs G.mb
  bi : ∀ x : Str, x ≠ "__name__" → G.mb x = bootBuiltins x
  nolimit : G.hT.NoLimit
  nodigits : ∃ mc, G.hT.Ns cStatics mc ∧ mc "sys.int_max_str_digits" = none
structure HR (G : Md) (H : AH) (h : Heap) : Prop where
  mods : H sysModules = none
  keep : ∀ b o, G.hT.get? b = some o → h.get? b = some o
  obj : ∀ a o, H a = some o → G.hT.get? a = none ∧ ∃ ob, h.get? a = some ob ∧ ORel G.w.params o ob
structure HStep (G : Md) (H : AH) (h : Heap) (H' : AH) (h' : Heap) : Prop where
  rel : HR G H' h'
  frame : ∀ b ob, h.get? b = some ob → H b = none → h'.get? b = some ob
  fresh : ∀ a, H' a ≠ none → H a ≠ none ∨ h.get? a = none
theorem HStep.refl {G : Md} {H : AH} {h : Heap} (R : HR G H h) : HStep G H h H h := ⟨R, fun _ _ e _ => e, fun _ e => .inl e⟩
theorem HStep.trans {G : Md} {H H' H'' : AH} {h h' h'' : Heap} (S : HStep G H h H' h') (T : HStep G H' h' H'' h'') : HStep G H h H'' h'' := by
  refine ⟨T.rel, fun b ob e n => T.frame b ob (S.frame b ob e n) ?_, fun a e => ?_⟩
  · cases q : H' b with
    | none => rfl
    | some o => rcases S.fresh b (by rw [q]; exact Option.some_ne_none o) with z | z
                · exact absurd n z
                · rw [e] at z; cases z
  · rcases T.fresh a e with z | z
    · exact S.fresh a z
    · cases q : H a with
      | some o => exact .inl (Option.some_ne_none o)
      | none => right; cases q' : h.get? a with
        | none => rfl
        | some ob => rw [S.frame a ob q' q] at z; cases z
structure SS (s s' : Shared) : Prop where
  gens : s'.gens = s.gens
  drawn : s'.drawn = s.drawn
  os : s'.os = s.os
theorem SS.refl (s : Shared) : SS s s := ⟨rfl, rfl, rfl⟩
theorem SS.of {s : Shared} {h : Heap} {tk : Nat} : SS s { s with heap := h, toks := tk } := ⟨rfl, rfl, rfl⟩
theorem SS.trans {a b c : Shared} (x : SS a b) (y : SS b c) : SS a c := ⟨y.1.trans x.1, y.2.trans x.2, y.3.trans x.3⟩
/-- a tree over the abstract heap -/
noncomputable def WT {α : Type} (G : Md) (A : Around) (t : Sem α) (Q : α → AH → Prop) (H : AH) : Prop :=
  ∀ s, HR G H s.heap → wpAny (model G.prog G.w) A t (fun v s' => ∃ H', HStep G H s.heap H' s'.heap ∧ SS s s' ∧ Q v H') (fun _ _ => False) s
section
variable {α β : Type} {G : Md} {A : Around} {H : AH}
theorem WT.pure {a : α} {Q : α → AH → Prop} (h : Q a H) : WT G A (pure a) Q H := fun s hs => wpAny_pure ⟨H, .refl hs, .refl s, h⟩
theorem WT.bind {t : Sem α} {k : α → Sem β} {Q : β → AH → Prop} (h : WT G A t (fun a H' => WT G A (k a) Q H') H) : WT G A (t >>= k) Q H := fun s hs =>
  wpAny_bind (wpAny_mono (h s hs) (fun a s' ⟨H', S, X, q⟩ => wpAny_mono (q s' S.rel) (fun b s'' ⟨H'', S', X', q'⟩ => ⟨H'', S.trans S', X.trans X', q'⟩) fun _ _ e => e) fun _ _ e => e)
theorem WT.mono {t : Sem α} {Q Q' : α → AH → Prop} (h : WT G A t Q H) (k : ∀ a H', Q a H' → Q' a H') : WT G A t Q' H := fun s hs =>
  wpAny_mono (h s hs) (fun a s' ⟨H', S, X, q⟩ => ⟨H', S, X, k _ _ q⟩) fun _ _ e => e
/-- only tokens are spent -/
theorem HStep.toks {H : AH} {s : Shared} {tk : Nat} (R : HR G H s.heap) : HStep G H s.heap H ({ s with toks := tk } : Shared).heap := .refl R
theorem HR.upd_push {H : AH} {h : Heap} {o : AObj} {ob : Obj} (R : HR G H h) (r : ORel G.w.params o ob) : HStep G H h (upd H h.objs.size o) (h.push ob) ∧ H h.objs.size = none := by
  have new : ∀ {a : Addr} {o' : Obj}, h.get? a = some o' → a ≠ h.objs.size := fun e => Nat.ne_of_lt (Heap.lt_size e)
  have hn : H h.objs.size = none := by
    cases q : H h.objs.size with
    | none => rfl
    | some o' => obtain ⟨_, ob', e, _⟩ := R.obj _ _ q; exact absurd rfl (new e)
  refine ⟨⟨⟨(upd_ne _ _ (Nat.ne_of_lt (modules_low (G.lim.keeps R.keep)))).trans R.mods, fun b o' e => Heap.get?_push_of_some _ (R.keep b o' e), fun a o' e => ?_⟩, fun b ob' e _ => Heap.get?_push_of_some _ e, fun a e => ?_⟩, hn⟩
  · by_cases q : a = h.objs.size
    · subst q
      rw [upd_same] at e; cases e
      refine ⟨?_, ob, Heap.get?_push_size _ r.notFreed, r⟩
      cases q : G.hT.get? h.objs.size with
      | none => rfl
      | some o' => exact absurd rfl (new (R.keep _ _ q))
    · rw [upd_ne _ _ q] at e
      obtain ⟨z, ob', e', r'⟩ := R.obj a o' e
      exact ⟨z, ob', Heap.get?_push_of_some _ e', r'⟩
  · by_cases q : a = h.objs.size
    · subst q; right
      cases z : h.get? h.objs.size with
      | none => rfl
      | some o' => exact absurd rfl (new z)
    · rw [upd_ne _ _ q] at e; exact .inl e
/-- an object of the abstract heap is changed in place -/
theorem HR.upd_at {H : AH} {h h' : Heap} {a : Addr} {o₀ o : AObj} {ob : Obj} (R : HR G H h) (ha : H a = some o₀) (e : h'.get? a = some ob) (r : ORel G.w.params o ob) (sb : Heap.SameBut a h h') : HStep G H h (upd H a o) h' := by
  obtain ⟨z₀, _, _, _⟩ := R.obj a o₀ ha
  refine ⟨⟨(upd_ne _ _ (fun p : sysModules = a => by rw [← p, R.mods] at ha; cases ha)).trans R.mods, fun b o' q => (sb.2 b (fun p => by rw [p, z₀] at q; cases q)).trans (R.keep b o' q), fun b o' q => ?_⟩, fun b ob' q n => (sb.2 b (fun p => by rw [p, ha] at n; cases n)).trans q, fun b q => ?_⟩
  · by_cases p : b = a
    · subst p; rw [upd_same] at q; cases q; exact ⟨z₀, ob, e, r⟩
    · rw [upd_ne _ _ p] at q
      obtain ⟨z, ob', e', r'⟩ := R.obj b o' q
      exact ⟨z, ob', (sb.2 b p).trans e', r'⟩
  · by_cases p : b = a
    · subst p; left; rw [ha]; exact Option.some_ne_none _
    · rw [upd_ne _ _ p] at q; exact .inl q
end
/-! frames -/
structure EnvOK (env : Env) : Prop where
  kind : env.scope.kind = .function
  glob : env.globals = mainGlobals
  blt : env.builtins = builtinsNs
  cells : ∀ x, (env.kindOf x = some .cell ∨ env.kindOf x = some .free) → (env.cells.lookup x).isSome = true
  apart : ∀ x y c, env.cells.lookup x = some c → env.cells.lookup y = some c → x = y
  locals : ∀ x, env.cells.lookup x ≠ some env.locals
noncomputable def own (env : Env) (b : Addr) : Prop := b = env.locals ∨ ∃ x, env.cells.lookup x = some b
structure LR (env : Env) (m : Str → Option AV) (h : Heap) : Prop where
  ns : ∃ mm, h.Ns env.locals mm ∧ ∀ x v, env.kindOf x = some .local → m x = some v → ∃ r, mm x = some r ∧ abs r = v
  cl : ∀ x c, env.cells.lookup x = some c → ∃ ov, h.IsCell c ov ∧ ∀ v, (env.kindOf x = some .cell ∨ env.kindOf x = some .free) → m x = some v → ∃ r, ov = some r ∧ abs r = v
  dom : ∀ x v, m x = some v → (env.kindOf x = some .local ∨ env.kindOf x = some .cell ∨ env.kindOf x = some .free) ∧ (x == ("__debug__" : Str)) = false ∧ (x == ("__classdict__" : Str)) = false
theorem LR.keeps {env : Env} {m : Str → Option AV} {h h' : Heap} (L : LR env m h) (k : ∀ b o, own env b → h.get? b = some o → h'.get? b = some o) : LR env m h' := by
  refine ⟨?_, fun x c e => ?_, L.dom⟩
  · obtain ⟨mm, ⟨o, es, ep, ho, r⟩, z⟩ := L.ns
    exact ⟨mm, ⟨o, es, ep, k _ _ (.inl rfl) ho, r⟩, z⟩
  · obtain ⟨ov, ⟨o, ho, r⟩, z⟩ := L.cl x c e
    exact ⟨ov, ⟨o, k _ _ (.inr ⟨x, e⟩) ho, r⟩, z⟩
structure FR (G : Md) (env : Env) (σ : St) (h : Heap) : Prop where
  hr : HR G σ.H h
  lr : LR env σ.m h
  own : ∀ b, own env b → σ.H b = none ∧ G.hT.get? b = none
theorem FR.there {G : Md} {env : Env} {σ : St} {h : Heap} (F : FR G env σ h) {b : Addr} (o : Mine.own env b) : ∃ ob, h.get? b = some ob := by
  rcases o with rfl | hb
  · obtain ⟨mm, ⟨o, es, ep, ho, r⟩, z⟩ := F.lr.ns; exact ⟨o, ho⟩
  · obtain ⟨x, e⟩ := hb
    obtain ⟨ov, ⟨o, ho, r⟩, z⟩ := F.lr.cl x b e; exact ⟨o, ho⟩
structure FStep (G : Md) (env : Env) (σ : St) (h : Heap) (σ' : St) (h' : Heap) : Prop where
  rel : FR G env σ' h'
  frame : ∀ b ob, h.get? b = some ob → σ.H b = none → ¬ own env b → h'.get? b = some ob
  fresh : ∀ a, σ'.H a ≠ none → σ.H a ≠ none ∨ h.get? a = none
theorem FStep.refl {G : Md} {env : Env} {σ : St} {h : Heap} (R : FR G env σ h) : FStep G env σ h σ h := ⟨R, fun _ _ e _ _ => e, fun _ e => .inl e⟩
theorem FStep.trans {G : Md} {env : Env} {σ σ' σ'' : St} {h h' h'' : Heap} (S : FStep G env σ h σ' h') (T : FStep G env σ' h' σ'' h'') (R : FR G env σ h) : FStep G env σ h σ'' h'' := by
  refine ⟨T.rel, fun b ob e n o => T.frame b ob (S.frame b ob e n o) ?_ o, fun a e => ?_⟩
  · cases q : σ'.H b with
    | none => rfl
    | some o' => rcases S.fresh b (by rw [q]; exact Option.some_ne_none o') with z | z
                 · exact absurd n z
                 · rw [e] at z; cases z
  · rcases T.fresh a e with z | z
    · exact S.fresh a z
    · cases q : σ.H a with
      | some o => exact .inl (Option.some_ne_none o)
      | none => right; cases q' : h.get? a with
        | none => rfl
        | some ob =>
          by_cases o : own env a
          · obtain ⟨ob', e'⟩ := S.rel.there o
            rw [e'] at z; cases z
          · rw [S.frame a ob q' q o] at z; cases z
/-- a heap step inside a frame -/
theorem HStep.toF {G : Md} {env : Env} {σ : St} {h : Heap} {H' : AH} {h' : Heap} (R : FR G env σ h) (S : HStep G σ.H h H' h') : FStep G env σ h ⟨H', σ.m⟩ h' := by
  refine ⟨⟨S.rel, R.lr.keeps fun b o ob e => S.frame b o e (R.own b ob).1, fun b ob => ⟨?_, (R.own b ob).2⟩⟩, fun b ob e n _ => S.frame b ob e n, S.fresh⟩
  show H' b = none
  cases q : H' b with
  | none => rfl
  | some o => rcases S.fresh b (by rw [q]; exact Option.some_ne_none o) with z | z
              · exact absurd (R.own b ob).1 z
              · obtain ⟨ob', e'⟩ := R.there ob; rw [e'] at z; cases z
noncomputable def WF {α : Type} (G : Md) (A : Around) (env : Env) (t : Sem α) (Q : α → St → Prop) (σ : St) : Prop :=
  ∀ s, FR G env σ s.heap → wpAny (model G.prog G.w) A t (fun v s' => ∃ σ', FStep G env σ s.heap σ' s'.heap ∧ SS s s' ∧ Q v σ') (fun _ _ => False) s
section
variable {α β : Type} {G : Md} {A : Around} {env : Env} {σ : St}
theorem WF.pure {a : α} {Q : α → St → Prop} (h : Q a σ) : WF G A env (pure a) Q σ := fun s hs => wpAny_pure ⟨σ, .refl hs, .refl s, h⟩
theorem WF.after {s s' : Shared} {σ' : St} {t : Sem α} {Q : α → St → Prop} (R : FR G env σ s.heap) (S : FStep G env σ s.heap σ' s'.heap) (X : SS s s') (q : WF G A env t Q σ') :
    wpAny (model G.prog G.w) A t (fun v s'' => ∃ σ'', FStep G env σ s.heap σ'' s''.heap ∧ SS s s'' ∧ Q v σ'') (fun _ _ => False) s' :=
  wpAny_mono (q s' S.rel) (fun b s'' ⟨σ'', S', X', q'⟩ => ⟨σ'', S.trans S' R, X.trans X', q'⟩) fun _ _ e => e
theorem WF.go {s s₁ : Shared} {σ₁ : St} {t : Sem α} {R : α → St → Prop} {Goal : α → Shared → Prop} (hs : FR G env σ s.heap) (S : FStep G env σ s.heap σ₁ s₁.heap) (X : SS s s₁) (h : WF G A env t R σ₁)
    (k : ∀ v s₂ σ₂, FStep G env σ s.heap σ₂ s₂.heap → SS s s₂ → R v σ₂ → Goal v s₂) : wpAny (model G.prog G.w) A t Goal (fun _ _ => False) s₁ :=
  wpAny_mono (h s₁ S.rel) (fun v s₂ ⟨σ₂, S₂, X₂, q⟩ => k v s₂ σ₂ (S.trans S₂ hs) (X.trans X₂) q) fun _ _ e => e
theorem WF.go0 {s : Shared} {t : Sem α} {R : α → St → Prop} {Goal : α → Shared → Prop} (hs : FR G env σ s.heap) (h : WF G A env t R σ)
    (k : ∀ v s₂ σ₂, FStep G env σ s.heap σ₂ s₂.heap → SS s s₂ → R v σ₂ → Goal v s₂) : wpAny (model G.prog G.w) A t Goal (fun _ _ => False) s := WF.go hs (.refl hs) (.refl s) h k
theorem WF.bind {t : Sem α} {k : α → Sem β} {Q : β → St → Prop} (h : WF G A env t (fun a σ' => WF G A env (k a) Q σ') σ) : WF G A env (t >>= k) Q σ := fun s hs =>
  wpAny_bind (wpAny_mono (h s hs) (fun a s' ⟨σ', S, X, q⟩ => WF.after hs S X q) fun _ _ e => e)
theorem WF.mono {t : Sem α} {Q Q' : α → St → Prop} (h : WF G A env t Q σ) (k : ∀ a σ', Q a σ' → Q' a σ') : WF G A env t Q' σ := fun s hs =>
  wpAny_mono (h s hs) (fun a s' ⟨σ', S, X, q⟩ => ⟨σ', S, X, k _ _ q⟩) fun _ _ e => e
theorem WF.of_WT {t : Sem α} {Q : α → St → Prop} (h : WT G A t (fun v H' => Q v ⟨H', σ.m⟩) σ.H) : WF G A env t Q σ := fun s hs =>
  wpAny_mono (h s hs.hr) (fun a s' ⟨H', S, X, q⟩ => ⟨⟨H', σ.m⟩, S.toF hs, X, q⟩) fun _ _ e => e
end
end Mine
namespace Mine
inductive AFl where
  | next | brk | cont | ret (v : AV)
noncomputable def absF : Flow → AFl
  | .next => .next | .brk => .brk | .cont => .cont | .ret v => .ret (abs v)
noncomputable def WE (G : Md) (A : Around) (env : Env) (e : Expr) (Q : AV → St → Prop) (σ : St) : Prop := WF G A env (eval e env) (fun v σ' => Q (abs v) σ') σ
noncomputable def WB (G : Md) (A : Around) (env : Env) (e : Expr) (Q : Bool → St → Prop) (σ : St) : Prop := WF G A env (isTrue e env (eval e env)) Q σ
noncomputable def WL (G : Md) (A : Around) (env : Env) (pos : Pos) (es : List Expr) (Q : List AV → St → Prop) (σ : St) : Prop := WF G A env (spliced (backTo pos (starEach es env))) (fun vs σ' => Q (vs.map abs) σ') σ
noncomputable def WX (G : Md) (A : Around) (env : Env) (st : Stmt) (Q : AFl → St → Prop) (σ : St) : Prop := WF G A env (exec st env) (fun f σ' => Q (absF f) σ') σ
noncomputable def WS (G : Md) (A : Around) (env : Env) (ss : List Stmt) (Q : AFl → St → Prop) (σ : St) : Prop := WF G A env (execs ss env) (fun f σ' => Q (absF f) σ') σ
/-- operations on abstract values -/
noncomputable def AT1 (G : Md) (A : Around) (f : Value → Sem Value) (a : AV) (Q : AV → AH → Prop) (H : AH) : Prop := ∀ v, abs v = a → WT G A (f v) (fun r H' => Q (abs r) H') H
noncomputable def AT2 (G : Md) (A : Around) (f : Value → Value → Sem Value) (a b : AV) (Q : AV → AH → Prop) (H : AH) : Prop := ∀ v u, abs v = a → abs u = b → WT G A (f v u) (fun r H' => Q (abs r) H') H
/-! what is asked next, each by a name: the terms stay small -/
noncomputable abbrev kh (Q : AV → St → Prop) (m : Str → Option AV) : AV → AH → Prop := fun v H' => Q v ⟨H', m⟩
noncomputable def AT1S (G : Md) (A : Around) (f : Value → Sem Value) (a : AV) (Q : AV → St → Prop) (σ : St) : Prop := AT1 G A f a (kh Q σ.m) σ.H
noncomputable def AT2S (G : Md) (A : Around) (f : Value → Value → Sem Value) (a b : AV) (Q : AV → St → Prop) (σ : St) : Prop := AT2 G A f a b (kh Q σ.m) σ.H
noncomputable abbrev k2r (G : Md) (A : Around) (f : Value → Value → Sem Value) (a : AV) (Q : AV → St → Prop) : AV → St → Prop := fun b σ => AT2S G A f a b Q σ
noncomputable abbrev k2 (G : Md) (A : Around) (env : Env) (r : Expr) (f : Value → Value → Sem Value) (Q : AV → St → Prop) : AV → St → Prop := fun a σ => WE G A env r (k2r G A f a Q) σ
noncomputable abbrev k1 (G : Md) (A : Around) (f : Value → Sem Value) (Q : AV → St → Prop) : AV → St → Prop := fun a σ => AT1S G A f a Q σ
noncomputable abbrev kb (Q : Bool → St → Prop) : AV → St → Prop := fun v σ => ∃ c, v = .bool c ∧ Q c σ
noncomputable abbrev kn (Q : Bool → St → Prop) : Bool → St → Prop := fun c σ => Q (!c) σ
noncomputable abbrev kvn (Q : AV → St → Prop) : Bool → St → Prop := fun c σ => Q (.bool (!c)) σ
noncomputable abbrev kand (G : Md) (A : Around) (env : Env) (rest : List Expr) (pos : Pos) (Q : Bool → St → Prop) : Bool → St → Prop := fun c σ => if c then WB G A env (.BoolOp .And rest pos) Q σ else Q false σ
noncomputable abbrev kor (G : Md) (A : Around) (env : Env) (rest : List Expr) (pos : Pos) (Q : Bool → St → Prop) : Bool → St → Prop := fun c σ => if c then Q true σ else WB G A env (.BoolOp .Or rest pos) Q σ
noncomputable abbrev kib (G : Md) (A : Around) (env : Env) (b o : Expr) (Q : Bool → St → Prop) : Bool → St → Prop := fun c σ => if c then WB G A env b Q σ else WB G A env o Q σ
noncomputable abbrev kie (G : Md) (A : Around) (env : Env) (b o : Expr) (Q : AV → St → Prop) : Bool → St → Prop := fun c σ => if c then WE G A env b Q σ else WE G A env o Q σ
noncomputable abbrev kis (G : Md) (A : Around) (env : Env) (b o : List Stmt) (Q : AFl → St → Prop) : Bool → St → Prop := fun c σ => if c then WS G A env b Q σ else WS G A env o Q σ
noncomputable abbrev kwa (G : Md) (A : Around) (env : Env) (rest : List Expr) (pos : Pos) (Q : AV → St → Prop) : Bool → St → Prop := fun c σ => if c then WE G A env (.BoolOp .And rest pos) Q σ else Q (.bool false) σ
noncomputable abbrev kwo (G : Md) (A : Around) (env : Env) (rest : List Expr) (pos : Pos) (Q : AV → St → Prop) : Bool → St → Prop := fun c σ => if c then Q (.bool true) σ else WE G A env (.BoolOp .Or rest pos) Q σ
noncomputable abbrev kcons (v : AV) (Q : List AV → St → Prop) : List AV → St → Prop := fun vs σ => Q (v :: vs) σ
noncomputable abbrev kl (G : Md) (A : Around) (env : Env) (pos : Pos) (rest : List Expr) (Q : List AV → St → Prop) : AV → St → Prop := fun v σ => WL G A env pos rest (kcons v Q) σ
noncomputable abbrev kret (Q : AFl → St → Prop) : AV → St → Prop := fun v σ => Q (.ret v) σ
noncomputable def kas (x : Str) (Q : AFl → St → Prop) : AV → St → Prop := fun v σ => Q .next ⟨σ.H, put σ.m x v⟩
noncomputable def knl (Q : AV → St → Prop) : List AV → St → Prop := fun vs σ => vs.length ≤ sizeLine ∧ ∀ a, σ.H a = none → Q (.ref a) ⟨upd σ.H a (.list vs), σ.m⟩
noncomputable def knt (Q : AV → St → Prop) : List AV → St → Prop := fun vs σ => vs.length ≤ sizeLine ∧ ∀ a, σ.H a = none → Q (.ref a) ⟨upd σ.H a (.tup vs), σ.m⟩
theorem kb_i {Q : Bool → St → Prop} {c : Bool} {σ : St} (h : Q c σ) : kb Q (.bool c) σ := ⟨c, rfl, h⟩
theorem kas_i {x : Str} {Q : AFl → St → Prop} {v : AV} {H : AH} {m : Str → Option AV} (h : Q .next ⟨H, put m x v⟩) : kas x Q v ⟨H, m⟩ := h
noncomputable def ATr (G : Md) (A : Around) (a : AV) (Q : Bool → AH → Prop) (H : AH) : Prop := ∀ v, abs v = a → WT G A (truthy v) Q H
section
variable {G : Md} {A : Around} {env : Env} {σ : St} {pos : Pos}
theorem lift1 {f : Value → Sem Value} {a : AV} {Q : AV → St → Prop} {v : Value} (e : abs v = a) (h : AT1 G A f a (fun r H' => Q r ⟨H', σ.m⟩) σ.H) : WF G A env (f v) (fun r σ' => Q (abs r) σ') σ := .of_WT (h v e)
theorem lift2 {f : Value → Value → Sem Value} {a b : AV} {Q : AV → St → Prop} {v u : Value} (e : abs v = a) (e' : abs u = b) (h : AT2 G A f a b (fun r H' => Q r ⟨H', σ.m⟩) σ.H) : WF G A env (f v u) (fun r σ' => Q (abs r) σ') σ := .of_WT (h v u e e')
theorem we_none {k : Nat} {Q : AV → St → Prop} (h : Q .none σ) : WE G A env (.Constant .none k pos) Q σ := fun s hs => Constant_none ⟨σ, .refl hs, .refl s, h⟩
theorem we_bool {k : Nat} {b : Bool} {Q : AV → St → Prop} (h : Q (.bool b) σ) : WE G A env (.Constant (.bool b) k pos) Q σ := fun s hs => Constant_bool ⟨σ, .refl hs, .refl s, h⟩
theorem we_int {k : Nat} {i : Int} {Q : AV → St → Prop} (h : Q (.int i) σ) : WE G A env (.Constant (.int i) k pos) Q σ := fun s hs => wpAny_Constant_int ⟨σ, FStep.refl (h := s.heap) hs, ⟨rfl, rfl, rfl⟩, h⟩
theorem we_str {k : Nat} {x : Str} {Q : AV → St → Prop} (h : Q (.str x) σ) : WE G A env (.Constant (.str x) k pos) Q σ := fun s hs => Calls.Constant_str ⟨σ, FStep.refl (h := s.heap) hs, ⟨rfl, rfl, rfl⟩, h⟩
theorem mem_of_look {α : Type} {x : Str} {c : α} : ∀ {l : List (Str × α)}, l.lookup x = some c → (x, c) ∈ l
  | (y, d) :: r, e => by
    rw [List.lookup_cons] at e
    split at e
    · rename_i q; rw [beq_iff_eq.mp q]; cases e; exact .head _
    · exact .tail _ (mem_of_look e)
theorem loadName_m {x : Str} {v : AV} {Q : AV → St → Prop} (eo : EnvOK env) (hx : σ.m x = some v) (h : Q v σ) : WF G A env (loadName env x) (fun r σ' => Q (abs r) σ') σ := fun s hs => by
  obtain ⟨hk, hd, hc⟩ := hs.lr.dom x v hx
  rcases hk with hk | hk
  · obtain ⟨mm, hn, z⟩ := hs.lr.ns
    obtain ⟨r, e1, e2⟩ := z x v hk hx
    exact wpAny_loadName_local eo.kind hk hn e1 ⟨σ, .refl hs, .refl s, (show Q (abs r) σ by rw [e2]; exact h)⟩
  · have hs' := eo.cells x hk
    obtain ⟨c, e⟩ := Option.isSome_iff_exists.mp hs'
    obtain ⟨ov, hv, z⟩ := hs.lr.cl x c e
    obtain ⟨r, rfl, e2⟩ := z v hk hx
    have q : (fun (r : Value) (s' : Shared) => ∃ σ', FStep G env σ s.heap σ' s'.heap ∧ SS s s' ∧ Q (abs r) σ') r s := ⟨σ, .refl hs, .refl s, (show Q (abs r) σ by rw [e2]; exact h)⟩
    rcases hk with hk | hk
    · exact wpAny_loadName_cell eo.kind hk e hv q
    · exact wpAny_loadName_free eo.kind hk e hv q hc
theorem we_name {x : Str} {v : AV} {Q : AV → St → Prop} {H : AH} {m : Str → Option AV} (eo : EnvOK env) (hx : m x = some v) (h : Q v ⟨H, m⟩) : WE G A env (.Name x pos) Q ⟨H, m⟩ := fun s hs =>
  wpAny_Name (loadName_m (σ := ⟨H, m⟩) eo hx h s hs) (hs.lr.dom x v hx).2.1
theorem we_global {x : Str} {r : Value} {Q : AV → St → Prop} (eo : EnvOK env) (gd : Gd G) (hx : env.kindOf x = some .globalImplicit) (hg : G.mg x = some r) (h : Q (abs r) σ) (hd : (x == ("__debug__" : Str)) = false) : WE G A env (.Name x pos) Q σ := fun s hs =>
  Calls.Name_function_global eo.kind hx (Calls.loadGlobal_global (by rw [eo.glob]; exact gd.g.keeps hs.hr.keep) hg ⟨σ, .refl hs, .refl s, h⟩) hd
theorem we_builtin {x : Str} {r : Value} {Q : AV → St → Prop} (eo : EnvOK env) (gd : Gd G) (hx : env.kindOf x = some .globalImplicit) (hg : G.mg x = none) (hb : bootBuiltins x = some r) (hn : x ≠ "__name__") (h : Q (abs r) σ) (hd : (x == ("__debug__" : Str)) = false) : WE G A env (.Name x pos) Q σ := fun s hs =>
  Calls.Name_function_global eo.kind hx (Calls.loadGlobal_builtin (by rw [eo.glob]; exact gd.g.keeps hs.hr.keep) hg (by rw [eo.blt]; exact gd.b.keeps hs.hr.keep) ((gd.bi x hn).trans hb) ⟨σ, .refl hs, .refl s, h⟩) hd
theorem liftT {v : Value} {a : AV} {Q : Bool → St → Prop} (e : abs v = a) (h : ATr G A a (fun r H' => Q r ⟨H', σ.m⟩) σ.H) : WF G A env (truthy v) Q σ := .of_WT (h v e)
theorem we_BinOp {l r : Expr} {op : Operator} {Q : AV → St → Prop} (h : WE G A env l (k2 G A env r (binaryOp op) Q) σ) : WE G A env (.BinOp l op r pos) Q σ := fun s hs =>
  wpAny_BinOp (WF.go0 hs h fun a s₁ σ₁ S₁ X₁ h₁ => WF.go hs S₁ X₁ h₁ fun b s₂ σ₂ S₂ X₂ h₂ => WF.go hs S₂ X₂ (lift2 rfl rfl h₂) fun v s₃ σ₃ S₃ X₃ h₃ => ⟨σ₃, S₃, X₃, h₃⟩)
theorem we_Compare {l r : Expr} {op : CmpOp} {Q : AV → St → Prop} (h : WE G A env l (k2 G A env r (compareOp op) Q) σ) (hm : behindInMarks op r = false) : WE G A env (.Compare l [op] [r] pos) Q σ := fun s hs =>
  wpAny_Compare1 (WF.go0 hs h fun a s₁ σ₁ S₁ X₁ h₁ => WF.go hs S₁ X₁ h₁ fun b s₂ σ₂ S₂ X₂ h₂ => WF.go hs S₂ X₂ (lift2 rfl rfl h₂) fun v s₃ σ₃ S₃ X₃ h₃ => ⟨σ₃, S₃, X₃, h₃⟩) hm
theorem tr_bool {b : Bool} {H : AH} {Q : Bool → AH → Prop} (h : Q b H) : ATr G A (.bool b) Q H := fun v e => by rw [abs_bool e]; exact fun s hs => wpAny_truthy_bool ⟨H, .refl hs, .refl s, h⟩
/-- a comparison under a test gives a bool -/
theorem wb_Compare {l r : Expr} {op : CmpOp} {Q : Bool → St → Prop} (h : WE G A env l (k2 G A env r (compareOp op) (kb Q)) σ) (hm : behindInMarks op r = false) : WB G A env (.Compare l [op] [r] pos) Q σ := fun s hs =>
  wpAny_isTrue_Compare1 (WF.go0 hs h fun a s₁ σ₁ S₁ X₁ h₁ => WF.go hs S₁ X₁ h₁ fun b s₂ σ₂ S₂ X₂ h₂ => WF.go hs S₂ X₂ (lift2 (Q := fun v σ' => ∃ c, v = .bool c ∧ Q c σ') rfl rfl h₂) fun v s₃ σ₃ S₃ X₃ ⟨c, e, h₃⟩ =>
    by rw [abs_bool e]; exact wpAny_truthy_bool ⟨σ₃, S₃, X₃, h₃⟩) hm
theorem wb_not {x : Expr} {Q : Bool → St → Prop} (h : WB G A env x (kn Q) σ) : WB G A env (.UnaryOp .Not x pos) Q σ := fun s hs => isTrue_not (h s hs)
theorem wb_and {x : Expr} {rest : List Expr} {Q : Bool → St → Prop} (h : WB G A env x (kand G A env rest pos Q) σ) : WB G A env (.BoolOp .And (x :: rest) pos) Q σ := fun s hs =>
  isTrue_and (WF.go0 hs h fun c s₁ σ₁ S₁ X₁ h₁ => by
    cases c with
    | true => exact WF.after hs S₁ X₁ h₁
    | false => exact ⟨σ₁, S₁, X₁, h₁⟩)
theorem wb_and_nil {Q : Bool → St → Prop} (h : Q true σ) : WB G A env (.BoolOp .And [] pos) Q σ := fun s hs => isTrue_and_nil ⟨σ, .refl hs, .refl s, h⟩
theorem wb_or {x : Expr} {rest : List Expr} {Q : Bool → St → Prop} (h : WB G A env x (kor G A env rest pos Q) σ) : WB G A env (.BoolOp .Or (x :: rest) pos) Q σ := fun s hs =>
  isTrue_or (WF.go0 hs h fun c s₁ σ₁ S₁ X₁ h₁ => by
    cases c with
    | false => exact WF.after hs S₁ X₁ h₁
    | true => exact ⟨σ₁, S₁, X₁, h₁⟩)
theorem wb_or_nil {Q : Bool → St → Prop} (h : Q false σ) : WB G A env (.BoolOp .Or [] pos) Q σ := fun s hs => isTrue_or_nil ⟨σ, .refl hs, .refl s, h⟩
theorem wb_IfExp {t b o : Expr} {Q : Bool → St → Prop} (h : WB G A env t (kib G A env b o Q) σ) : WB G A env (.IfExp t b o pos) Q σ := fun s hs =>
  isTrue_IfExp (WF.go0 hs h fun c s₁ σ₁ S₁ X₁ h₁ => by cases c <;> exact WF.after hs S₁ X₁ h₁)
/-- a test by its value -/
theorem wb_plain {e : Expr} {Q : Bool → St → Prop} (h : WE G A env e (kb Q) σ) (he : ∀ whole, isTrue e env whole = (do let v ← whole; standAt e.pos; holding [v] (truthy v))) : WB G A env e Q σ := fun s hs =>
  isTrue_plain (WF.go0 hs h fun v s₁ σ₁ S₁ X₁ ⟨c, e, h₁⟩ => by rw [abs_bool e]; exact wpAny_truthy_bool ⟨σ₁, S₁, X₁, h₁⟩) (he _)
theorem wb_Name {x : Str} {Q : Bool → St → Prop} (h : WE G A env (.Name x pos) (kb Q) σ) : WB G A env (.Name x pos) Q σ := wb_plain h fun _ => rfl
theorem wb_Call {f : Expr} {as : List Expr} {ks : List Keyword} {Q : Bool → St → Prop} (h : WE G A env (.Call f as ks pos) (kb Q) σ) : WB G A env (.Call f as ks pos) Q σ := wb_plain h fun _ => rfl
theorem we_Not {x : Expr} {Q : AV → St → Prop} (h : WE G A env x (kb (kvn Q)) σ) : WE G A env (.UnaryOp .Not x pos) Q σ := fun s hs =>
  UnaryOp_ (WF.go0 hs h fun v s₁ σ₁ S₁ X₁ ⟨c, e, h₁⟩ => by rw [abs_bool e]; exact not_of (wpAny_truthy_bool ⟨σ₁, S₁, X₁, h₁⟩))
theorem we_Unary {op : UnaryOp} {x : Expr} {Q : AV → St → Prop} (h : WE G A env x (k1 G A (unaryOp op) Q) σ) : WE G A env (.UnaryOp op x pos) Q σ := fun s hs =>
  UnaryOp_ (WF.go0 hs h fun v s₁ σ₁ S₁ X₁ h₁ => WF.after hs S₁ X₁ (lift1 rfl h₁))
theorem we_IfExp {t b o : Expr} {Q : AV → St → Prop} (h : WB G A env t (kie G A env b o Q) σ) : WE G A env (.IfExp t b o pos) Q σ := fun s hs =>
  IfExp_ (WF.go0 hs h fun c s₁ σ₁ S₁ X₁ h₁ => by cases c <;> exact WF.after hs S₁ X₁ h₁)
theorem we_bool1 {op : BoolOp} {e : Expr} {Q : AV → St → Prop} (h : WE G A env e Q σ) : WE G A env (.BoolOp op [e] pos) Q σ := fun s hs => BoolOp_one (h s hs)
theorem we_and {e₁ e₂ : Expr} {rest : List Expr} {Q : AV → St → Prop} (h : WE G A env e₁ (kb (kwa G A env (e₂ :: rest) pos Q)) σ) : WE G A env (.BoolOp .And (e₁ :: e₂ :: rest) pos) Q σ := fun s hs =>
  BoolOp_and (WF.go0 hs h fun v s₁ σ₁ S₁ X₁ ⟨c, e, h₁⟩ => by
    rw [abs_bool e]; refine wpAny_truthy_bool ?_
    cases c with
    | true => exact WF.after hs S₁ X₁ h₁
    | false => exact ⟨σ₁, S₁, X₁, h₁⟩)
theorem we_or {e₁ e₂ : Expr} {rest : List Expr} {Q : AV → St → Prop} (h : WE G A env e₁ (kb (kwo G A env (e₂ :: rest) pos Q)) σ) : WE G A env (.BoolOp .Or (e₁ :: e₂ :: rest) pos) Q σ := fun s hs =>
  BoolOp_or (WF.go0 hs h fun v s₁ σ₁ S₁ X₁ ⟨c, e, h₁⟩ => by
    rw [abs_bool e]; refine wpAny_truthy_bool ?_
    cases c with
    | false => exact WF.after hs S₁ X₁ h₁
    | true => exact ⟨σ₁, S₁, X₁, h₁⟩)
/-! lists of expressions -/
theorem wl_nil {Q : List AV → St → Prop} (h : Q [] σ) : WL G A env pos [] Q σ := fun s hs => Calls.spliced_nil ⟨σ, .refl hs, .refl s, h⟩
theorem wl_cons {e : Expr} {rest : List Expr} {Q : List AV → St → Prop} (h : WE G A env e (kl G A env pos rest Q) σ) (he : starEach (e :: rest) env = (false, eval e env) :: starEach rest env) : WL G A env pos (e :: rest) Q σ := fun s hs => by
  rw [he]
  exact Calls.spliced_cons (WF.go0 hs h fun v s₁ σ₁ S₁ X₁ h₁ => WF.go hs S₁ X₁ h₁ fun vs s₂ σ₂ S₂ X₂ h₂ => ⟨σ₂, S₂, X₂, h₂⟩)
theorem we_List {es : List Expr} {Q : AV → St → Prop} (h : WL G A env pos es (knl Q) σ) : WE G A env (.List es pos) Q σ := fun s hs =>
  List_ (WF.go0 hs h fun vs s₁ σ₁ S₁ X₁ ⟨hz, h₁⟩ => wpAny_newObj_type (by
    obtain ⟨S, hn⟩ := S₁.rel.hr.upd_push (o := .list (vs.map abs)) (ob := { cls := .type "list", data := .seq vs.toArray }) ⟨vs.toArray, 0, rfl, by simp⟩
    exact ⟨_, S₁.trans (S.toF S₁.rel) hs, X₁.trans ⟨rfl, rfl, rfl⟩, h₁ _ hn⟩) (by show vs.toArray.size ≤ sizeLine; simpa using hz))
theorem we_Tuple {es : List Expr} {k : Nat} {Q : AV → St → Prop} (h : WL G A env pos es (knt Q) σ) : WE G A env (.Tuple es k pos) Q σ := fun s hs =>
  Tuple_ (WF.go0 hs h fun vs s₁ σ₁ S₁ X₁ ⟨hz, h₁⟩ => wpAny_newObj_type (by
    obtain ⟨S, hn⟩ := S₁.rel.hr.upd_push (o := .tup (vs.map abs)) (ob := { cls := .type "tuple", data := .seq vs.toArray }) ⟨vs.toArray, 0, rfl, by simp⟩
    exact ⟨_, S₁.trans (S.toF S₁.rel) hs, X₁.trans ⟨rfl, rfl, rfl⟩, h₁ _ hn⟩) (by show vs.toArray.size ≤ sizeLine; simpa using hz))
end
end Mine
namespace Mine
section
variable {G : Md} {A : Around} {env : Env} {σ : St} {pos : Pos}
theorem own_upd {h h' : Heap} {b : Addr} {m' : Str → Option AV} (R : FR G env σ h) (ob : own env b) (sb : Heap.SameBut b h h') (lr : LR env m' h') : FStep G env σ h ⟨σ.H, m'⟩ h' := by
  obtain ⟨n1, n2⟩ := R.own b ob
  refine ⟨⟨⟨R.hr.mods, fun c o e => (sb.2 c fun q => by rw [q, n2] at e; cases e).trans (R.hr.keep c o e), fun a o e => ?_⟩, lr, R.own⟩, fun c o e _ no => (sb.2 c fun q => no (q ▸ ob)).trans e, fun a e => .inl e⟩
  obtain ⟨z, ob', e', r⟩ := R.hr.obj a o e
  exact ⟨z, ob', (sb.2 a fun q => by rw [q, n1] at e; cases e).trans e', r⟩
/-- a name that may be stored to -/
structure Sto (env : Env) (x : Str) : Prop where
  kind : env.kindOf x = some .local ∨ env.kindOf x = some .cell
  nd : (x == ("__debug__" : Str)) = false
  nc : (x == ("__classdict__" : Str)) = false
theorem put_some {m : Str → Option AV} {x y : Str} {v u : AV} (e : put m x v y = some u) : (y = x ∧ u = v) ∨ (y ≠ x ∧ m y = some u) := by
  unfold put at e
  split at e
  · rename_i q; cases e; exact .inl ⟨q, rfl⟩
  · rename_i q; exact .inr ⟨q, e⟩
theorem store_m {x : Str} {v : Value} {Q : Unit → St → Prop} (eo : EnvOK env) (hx : Sto env x) (h : Q () ⟨σ.H, put σ.m x (abs v)⟩) : WF G A env (storeName env x v) Q σ := fun s hs => by
  have dom : ∀ y u, put σ.m x (abs v) y = some u → (env.kindOf y = some .local ∨ env.kindOf y = some .cell ∨ env.kindOf y = some .free) ∧ (y == ("__debug__" : Str)) = false ∧ (y == ("__classdict__" : Str)) = false := fun y u e => by
    rcases put_some e with ⟨rfl, rfl⟩ | ⟨_, e⟩
    · exact ⟨hx.kind.imp id .inl, hx.nd, hx.nc⟩
    · exact hs.lr.dom y u e
  obtain ⟨mm, hn, z⟩ := hs.lr.ns
  rcases hx.kind with hk | hk
  · refine wpAny_storeName_local hk hn (fun h' hn' sb => ?_) (by rw [eo.kind]; rfl)
    refine ⟨_, own_upd hs (.inl rfl) sb ⟨⟨_, hn', fun y u ky e => ?_⟩, fun y c hc => ?_, dom⟩, ⟨rfl, rfl, rfl⟩, h⟩
    · rcases put_some e with ⟨rfl, rfl⟩ | ⟨ne, e⟩
      · exact ⟨v, if_pos rfl, rfl⟩
      · obtain ⟨r, e1, e2⟩ := z y u ky e
        exact ⟨r, (if_neg ne).trans e1, e2⟩
    · obtain ⟨ov, hv, zc⟩ := hs.lr.cl y c hc
      refine ⟨ov, hv.sameBut sb fun q => eo.locals y (q ▸ hc), fun u ky e => ?_⟩
      rcases put_some e with ⟨rfl, rfl⟩ | ⟨ne, e⟩
      · rw [hk] at ky; rcases ky with ky | ky <;> cases ky
      · exact zc u ky e
  · obtain ⟨c, hm⟩ := Option.isSome_iff_exists.mp (eo.cells x (.inl hk))
    obtain ⟨ov, hv, zc⟩ := hs.lr.cl x c hm
    have oc : own env c := .inr ⟨x, hm⟩
    refine wpAny_storeName_cell eo.kind hk hm hv fun h' hv' sb => ?_
    refine ⟨_, own_upd hs oc sb ⟨⟨mm, hn.sameBut sb fun q => eo.locals x (q ▸ hm), fun y u ky e => ?_⟩, fun y d hd => ?_, dom⟩, ⟨rfl, rfl, rfl⟩, h⟩
    · rcases put_some e with ⟨rfl, rfl⟩ | ⟨ne, e⟩
      · rw [hk] at ky; cases ky
      · exact z y u ky e
    · by_cases q : d = c
      · subst q
        have := eo.apart _ _ _ hd hm
        subst this
        exact ⟨some v, hv', fun u ky e => by rcases put_some e with ⟨_, rfl⟩ | ⟨ne, e⟩ <;> first | exact ⟨v, rfl, rfl⟩ | exact absurd rfl ne⟩
      · obtain ⟨ov', hv2, zc'⟩ := hs.lr.cl y d hd
        refine ⟨ov', hv2.sameBut sb q, fun u ky e => ?_⟩
        rcases put_some e with ⟨rfl, rfl⟩ | ⟨ne, e⟩
        · rw [hd] at hm; cases hm; exact absurd rfl q
        · exact zc' u ky e
/-! statements -/
noncomputable def nx (G : Md) (A : Around) (env : Env) (rest : List Stmt) (Q : AFl → St → Prop) (f : AFl) (σ : St) : Prop := match f with
  | .next => WS G A env rest Q σ
  | f => Q f σ
theorem ws_nil {Q : AFl → St → Prop} (h : Q .next σ) : WS G A env [] Q σ := fun s hs => wpAny_execs_nil ⟨σ, .refl hs, .refl s, h⟩
theorem ws_cons {st : Stmt} {rest : List Stmt} {Q : AFl → St → Prop} (h : WX G A env st (nx G A env rest Q) σ) : WS G A env (st :: rest) Q σ := fun s hs =>
  wpAny_execs_cons (WF.go0 hs h fun f s₁ σ₁ S₁ X₁ h₁ => by
    cases f with
    | next => exact WF.after hs S₁ X₁ h₁
    | _ => exact ⟨σ₁, S₁, X₁, h₁⟩)
theorem wx_If {t : Expr} {b o : List Stmt} {Q : AFl → St → Prop} (h : WB G A env t (kis G A env b o Q) σ) : WX G A env (.If t b o pos) Q σ := fun s hs =>
  wpAny_If (WF.go0 hs h fun c s₁ σ₁ S₁ X₁ h₁ => by cases c <;> exact WF.after hs S₁ X₁ h₁)
theorem wx_Return {e : Expr} {Q : AFl → St → Prop} (h : WE G A env e (kret Q) σ) : WX G A env (.Return (some e) pos) Q σ := fun s hs =>
  wpAny_Return_some (WF.go0 hs h fun v s₁ σ₁ S₁ X₁ h₁ => ⟨σ₁, S₁, X₁, h₁⟩)
theorem wx_Return0 {Q : AFl → St → Prop} (h : Q (.ret .none) σ) : WX G A env (.Return none pos) Q σ := fun s hs => wpAny_Return_none ⟨σ, .refl hs, .refl s, h⟩
theorem wx_Pass {Q : AFl → St → Prop} (h : Q .next σ) : WX G A env (.Pass pos) Q σ := fun s hs => wpAny_Pass ⟨σ, .refl hs, .refl s, h⟩
theorem wx_Continue {Q : AFl → St → Prop} (h : Q .cont σ) : WX G A env (.Continue pos) Q σ := fun s hs => wpAny_Continue ⟨σ, .refl hs, .refl s, h⟩
theorem interactive_fn (eo : EnvOK env) : interactive env = false := by unfold interactive; rw [eo.kind]; rfl
theorem wx_Expr {e : Expr} {Q : AFl → St → Prop} (eo : EnvOK env) (h : WE G A env e (fun v σ' => (∀ a, v ≠ .ref a) ∧ Q .next σ') σ) (hs : swapsWith e none pos.line env = pure false) : WX G A env (.Expr e pos) Q σ := fun s hs' =>
  wpAny_Expr (WF.go0 hs' h fun v s₁ σ₁ S₁ X₁ ⟨n, h₁⟩ => by
    cases v with
    | ref a => exact absurd rfl (n a)
    | _ => exact ⟨σ₁, S₁, X₁, h₁⟩) (interactive_fn eo) hs
theorem wx_Assign {x : Str} {pos' : Pos} {value : Expr} {Q : AFl → St → Prop} (eo : EnvOK env) (hx : Sto env x) (h : WE G A env value (kas x Q) σ) (hs : swapsWith value (some (.Name x pos')) pos.line env = pure false) :
    WX G A env (.Assign [.Name x pos'] value pos) Q σ := fun s hs' =>
  wpAny_Assign_Name (WF.go0 hs' h fun v s₁ σ₁ S₁ X₁ h₁ => WF.go hs' S₁ X₁ (store_m (Q := fun _ σ' => Q .next σ') eo hx h₁) fun _ s₂ σ₂ S₂ X₂ h₂ => ⟨σ₂, S₂, X₂, h₂⟩) hs
theorem wx_Aug {x : Str} {pos' : Pos} {op : Operator} {value : Expr} {v : AV} {Q : AFl → St → Prop} (eo : EnvOK env) (hx : Sto env x) {H : AH} {m : Str → Option AV} (hv : m x = some v) (h : WE G A env value (k2r G A (inplaceOp op) v (kas x Q)) ⟨H, m⟩) :
    WX G A env (.AugAssign (.Name x pos') op value pos) Q ⟨H, m⟩ := fun s hs' =>
  wpAny_AugAssign_Name (WF.go0 hs' (loadName_m (σ := ⟨H, m⟩) (Q := fun r σ' => r = v ∧ σ' = ⟨H, m⟩) eo hv ⟨rfl, rfl⟩) fun old s₀ σ₀ S₀ X₀ ⟨e₀, eσ⟩ => by
    subst eσ
    exact WF.go hs' S₀ X₀ h fun u s₁ σ₁ S₁ X₁ h₁ => WF.go hs' S₁ X₁ (lift2 (Q := fun r σ' => Q .next ⟨σ'.H, put σ'.m x r⟩) e₀ rfl h₁) fun r s₂ σ₂ S₂ X₂ h₂ => WF.go hs' S₂ X₂ (store_m (Q := fun _ σ' => Q .next σ') eo hx h₂) fun _ s₃ σ₃ S₃ X₃ h₃ => ⟨σ₃, S₃, X₃, h₃⟩)
end
end Mine
namespace Mine
section
variable {G : Md} {A : Around} {H : AH} {Q : AV → AH → Prop}
theorem tok1 {s : Shared} {tk : Nat} {v : AV} (hs : HR G H s.heap) (h : Q v H) : ∃ H', HStep G H s.heap H' ({ s with toks := tk } : Shared).heap ∧ SS s { s with toks := tk } ∧ Q v H' := ⟨H, HStep.refl (h := s.heap) hs, ⟨rfl, rfl, rfl⟩, h⟩
theorem tok0 {s : Shared} {v : AV} (hs : HR G H s.heap) (h : Q v H) : ∃ H', HStep G H s.heap H' s.heap ∧ SS s s ∧ Q v H' := ⟨H, .refl hs, .refl s, h⟩
/-! ints -/
theorem b_add_h {i j : Int} (h : Q (.int (i + j)) H) : AT2 G A (binaryOp .Add) (.int i) (.int j) Q H := fun v u ev eu => by
  obtain ⟨t, rfl⟩ := abs_int ev; obtain ⟨t', rfl⟩ := abs_int eu; exact fun s hs => add_int (tok1 hs h)
theorem b_sub_h {i j : Int} (h : Q (.int (i - j)) H) : AT2 G A (binaryOp .Sub) (.int i) (.int j) Q H := fun v u ev eu => by
  obtain ⟨t, rfl⟩ := abs_int ev; obtain ⟨t', rfl⟩ := abs_int eu; exact fun s hs => sub_int (tok1 hs h)
theorem b_mul_h {i j : Int} (hm : IntMulOk i j) (h : Q (.int (i * j)) H) : AT2 G A (binaryOp .Mult) (.int i) (.int j) Q H := fun v u ev eu => by
  obtain ⟨t, rfl⟩ := abs_int ev; obtain ⟨t', rfl⟩ := abs_int eu; exact fun s hs => mul_int (tok1 hs h) hm
theorem b_mod_h {i j : Int} (hj : j ≠ 0) (h : Q (.int (i.fmod j)) H) : AT2 G A (binaryOp .Mod) (.int i) (.int j) Q H := fun v u ev eu => by
  obtain ⟨t, rfl⟩ := abs_int ev; obtain ⟨t', rfl⟩ := abs_int eu; exact fun s hs => mod_int hj (tok1 hs h)
theorem b_div_h {i j : Int} (hj : j ≠ 0) (hp : Builtin.divisionGoesByPylong i j = false) (h : Q (.int (i.fdiv j)) H) : AT2 G A (binaryOp .FloorDiv) (.int i) (.int j) Q H := fun v u ev eu => by
  obtain ⟨t, rfl⟩ := abs_int ev; obtain ⟨t', rfl⟩ := abs_int eu; exact fun s hs => floordiv_int hj (tok1 hs h) (.inl hp)
theorem b_pow_h {i j : Int} (hj : 0 ≤ j) (hz : (Builtin.Int.intBits i : Int) * j ≤ 2 ^ 27) (h : Q (.int (i ^ j.toNat)) H) : AT2 G A (binaryOp .Pow) (.int i) (.int j) Q H := fun v u ev eu => by
  obtain ⟨t, rfl⟩ := abs_int ev; obtain ⟨t', rfl⟩ := abs_int eu; exact fun s hs => pow_int hj hz (tok1 hs h)
theorem i_add_h {i j : Int} (h : Q (.int (i + j)) H) : AT2 G A (inplaceOp .Add) (.int i) (.int j) Q H := fun v u ev eu => by
  obtain ⟨t, rfl⟩ := abs_int ev; obtain ⟨t', rfl⟩ := abs_int eu; exact fun s hs => iadd_int (tok1 hs h)
theorem u_neg_h {i : Int} (h : Q (.int (-i)) H) : AT1 G A (unaryOp .USub) (.int i) Q H := fun v ev => by
  obtain ⟨t, rfl⟩ := abs_int ev; exact fun s hs => neg_int (tok1 hs h)
theorem c_lt_h {i j : Int} (h : Q (.bool (decide (i < j))) H) : AT2 G A (compareOp .Lt) (.int i) (.int j) Q H := fun v u ev eu => by
  obtain ⟨t, rfl⟩ := abs_int ev; obtain ⟨t', rfl⟩ := abs_int eu; exact fun s hs => lt_int (tok0 hs h)
theorem c_gt_h {i j : Int} (h : Q (.bool (decide (j < i))) H) : AT2 G A (compareOp .Gt) (.int i) (.int j) Q H := fun v u ev eu => by
  obtain ⟨t, rfl⟩ := abs_int ev; obtain ⟨t', rfl⟩ := abs_int eu; exact fun s hs => gt_int (tok0 hs h)
theorem c_le_h {i j : Int} (h : Q (.bool (decide (i ≤ j))) H) : AT2 G A (compareOp .LtE) (.int i) (.int j) Q H := fun v u ev eu => by
  obtain ⟨t, rfl⟩ := abs_int ev; obtain ⟨t', rfl⟩ := abs_int eu; exact fun s hs => PyProof.Rows.le_int (tok0 hs h)
theorem c_ge_h {i j : Int} (h : Q (.bool (decide (j ≤ i))) H) : AT2 G A (compareOp .GtE) (.int i) (.int j) Q H := fun v u ev eu => by
  obtain ⟨t, rfl⟩ := abs_int ev; obtain ⟨t', rfl⟩ := abs_int eu; exact fun s hs => PyProof.Rows.ge_int (tok0 hs h)
theorem c_eqi_h {i j : Int} (h : Q (.bool (decide (i = j))) H) : AT2 G A (compareOp .Eq) (.int i) (.int j) Q H := fun v u ev eu => by
  obtain ⟨t, rfl⟩ := abs_int ev; obtain ⟨t', rfl⟩ := abs_int eu
  exact fun s hs => eq_int (tok0 (Q := Q) hs (by rw [show abs (.bool (i == j)) = AV.bool (decide (i = j)) from congrArg AV.bool (by rw [Bool.eq_iff_iff]; simp)]; exact h))
theorem c_nei_h {i j : Int} (h : Q (.bool (decide (i ≠ j))) H) : AT2 G A (compareOp .NotEq) (.int i) (.int j) Q H := fun v u ev eu => by
  obtain ⟨t, rfl⟩ := abs_int ev; obtain ⟨t', rfl⟩ := abs_int eu
  exact fun s hs => ne_int (tok0 (Q := Q) hs (by rw [show abs (.bool (i != j)) = AV.bool (decide (i ≠ j)) from congrArg AV.bool (by rw [Bool.eq_iff_iff]; simp)]; exact h))
/-! strs, None -/
theorem c_eqs_h {x y : Str} (h : Q (.bool (decide (x = y))) H) : AT2 G A (compareOp .Eq) (.str x) (.str y) Q H := fun v u ev eu => by
  obtain ⟨t, rfl⟩ := abs_str ev; obtain ⟨t', rfl⟩ := abs_str eu
  exact fun s hs => PyProof.Rows.eq_str (tok0 (Q := Q) hs (by rw [show abs (.bool (x == y)) = AV.bool (decide (x = y)) from congrArg AV.bool (by rw [Bool.eq_iff_iff]; simp)]; exact h))
theorem c_nes_h {x y : Str} (h : Q (.bool (decide (x ≠ y))) H) : AT2 G A (compareOp .NotEq) (.str x) (.str y) Q H := fun v u ev eu => by
  obtain ⟨t, rfl⟩ := abs_str ev; obtain ⟨t', rfl⟩ := abs_str eu
  exact fun s hs => PyProof.Rows.ne_str (tok0 (Q := Q) hs (by rw [show abs (.bool (x != y)) = AV.bool (decide (x ≠ y)) from congrArg AV.bool (by rw [Bool.eq_iff_iff]; simp)]; exact h))
noncomputable def isN : AV → Bool
  | .none => true
  | _ => false
theorem isN_abs (v : Value) (h : abs v ≠ .other) : (v == Value.none) = isN (abs v) := by
  cases v <;> first | rfl | (rw [Bool.eq_iff_iff]; simp [isN, abs]) 
theorem c_is_h {a : AV} (ho : a ≠ .other) (h : Q (.bool (isN a)) H) : AT2 G A (compareOp .Is) a .none Q H := fun v u ev eu => by
  rw [abs_none eu]; subst ev
  exact fun s hs => is_none_gen (tok0 (Q := Q) hs (by rw [isN_abs v ho]; exact h))
theorem c_isnot_h {a : AV} (ho : a ≠ .other) (h : Q (.bool (!isN a)) H) : AT2 G A (compareOp .IsNot) a .none Q H := fun v u ev eu => by
  rw [abs_none eu]; subst ev
  exact fun s hs => isnot_none_gen (tok0 (Q := Q) hs (by rw [isN_abs v ho]; exact h))
theorem b_adds_h {x y : Str} (hz : x.length + y.length ≤ sizeLine) (h : Q (.str (x ++ y)) H) : AT2 G A (binaryOp .Add) (.str x) (.str y) Q H := fun v u ev eu => by
  obtain ⟨t, rfl⟩ := abs_str ev; obtain ⟨t', rfl⟩ := abs_str eu; exact fun s hs => PyProof.Rows.add_str (fun _ _ => tok1 hs h) hz
/-! what stands in the abstract heap -/
theorem HR.list {h : Heap} {a : Addr} {xs : List AV} (R : HR G H h) (e : H a = some (.list xs)) : ∃ vs n, IsL h a vs n ∧ vs.toList.map abs = xs := by
  obtain ⟨_, ob, ho, vs, n, rfl, r⟩ := R.obj a _ e; exact ⟨vs, n, ho, r⟩
theorem HR.tup {h : Heap} {a : Addr} {xs : List AV} (R : HR G H h) (e : H a = some (.tup xs)) : ∃ vs n, IsT h a vs n ∧ vs.toList.map abs = xs := by
  obtain ⟨_, ob, ho, vs, n, rfl, r⟩ := R.obj a _ e; exact ⟨vs, n, ho, r⟩
theorem abs_at {vs : Array Value} {xs : List AV} {k : Nat} {x : AV} (r : vs.toList.map abs = xs) (e : xs[k]? = some x) : ∃ v, vs[k]? = some v ∧ abs v = x := by
  subst r
  rw [List.getElem?_map] at e
  obtain ⟨v, e1, e2⟩ := Option.map_eq_some_iff.mp e
  exact ⟨v, by simpa using e1, e2⟩
theorem abs_size {vs : Array Value} {xs : List AV} (r : vs.toList.map abs = xs) : vs.size = xs.length := by subst r; simp
/-- a list is changed in place -/
theorem HR.list_upd {s : Shared} {a : Addr} {xs : List AV} {vs : Array Value} {n : Nat} (R : HR G H s.heap) (e : H a = some (.list xs)) (hl : IsL s.heap a vs n) (f : Array Value → Array Value) {ys : List AV} (hy : (f vs).toList.map abs = ys) {v : AV} (h : Q v (upd H a (.list ys))) :
    ∃ H', HStep G H s.heap H' (s.heap.update a (Obj.mapSeq f)) ∧ SS s { s with heap := s.heap.update a (Obj.mapSeq f) } ∧ Q v H' :=
  ⟨_, R.upd_at (o := .list ys) e (hl.update f) ⟨_, _, rfl, hy⟩ (Heap.SameBut.update ..), ⟨rfl, rfl, rfl⟩, h⟩
theorem HR.push_list {s : Shared} {vs : Array Value} {ys : List AV} (R : HR G H s.heap) (hy : vs.toList.map abs = ys) (h : ∀ a, H a = none → Q (.ref a) (upd H a (.list ys))) :
    ∃ H', HStep G H s.heap H' (s.heap.push { cls := .type "list", data := .seq vs }) ∧ SS s { s with heap := s.heap.push { cls := .type "list", data := .seq vs } } ∧ Q (.ref s.heap.objs.size) H' := by
  obtain ⟨S, n⟩ := R.upd_push (o := .list ys) (ob := { cls := .type "list", data := .seq vs }) ⟨vs, 0, rfl, hy⟩
  exact ⟨_, S, ⟨rfl, rfl, rfl⟩, h _ n⟩
theorem b_addl_h {l b : Addr} {xs ys : List AV} (hl : H l = some (.list xs)) (hb : H b = some (.list ys)) (hz : xs.length + ys.length ≤ sizeLine) (h : ∀ a, H a = none → Q (.ref a) (upd H a (.list (xs ++ ys)))) : AT2 G A (binaryOp .Add) (.ref l) (.ref b) Q H := fun v u ev eu s hs => by
  rw [abs_ref ev, abs_ref eu]
  obtain ⟨vs, n, e1, r1⟩ := hs.list hl
  obtain ⟨us, n', e2, r2⟩ := hs.list hb
  exact P.add_list e1 e2 (hs.push_list (by simp [r1, r2]) h) (by rw [abs_size r1, abs_size r2]; exact hz)
/-! items -/
theorem g_list {l : Addr} {xs : List AV} {k : Int} {x : AV} (hl : H l = some (.list xs)) (h0 : 0 ≤ k) (hk : k < 2 ^ 63) (hx : xs[k.toNat]? = some x) (h : Q x H) : AT2 G A getItem (.ref l) (.int k) Q H := fun v u ev eu s hs => by
  obtain ⟨t, rfl⟩ := abs_int eu; rw [abs_ref ev]
  obtain ⟨vs, n, e1, r1⟩ := hs.list hl
  obtain ⟨y, e2, e3⟩ := abs_at r1 hx
  exact wpAny_getItem_list e1.isList h0 hk e2 (tok0 (Q := Q) hs (by rw [e3]; exact h))
theorem seqIndex_nat {k : Int} {n : Nat} (h0 : 0 ≤ k) (hk : k.toNat < n) : seqIndex? k n = some k.toNat := by
  unfold seqIndex?
  have : ¬ k < 0 := by lia
  simp only [this, if_false]
  simp; lia
theorem g_tup {l : Addr} {xs : List AV} {k : Int} {x : AV} (hl : H l = some (.tup xs)) (h0 : 0 ≤ k) (hk : k < 2 ^ 63) (hx : xs[k.toNat]? = some x) (h : Q x H) : AT2 G A getItem (.ref l) (.int k) Q H := fun v u ev eu s hs => by
  obtain ⟨t, rfl⟩ := abs_int eu; rw [abs_ref ev]
  obtain ⟨vs, n, e1, r1⟩ := hs.tup hl
  obtain ⟨y, e2, e3⟩ := abs_at r1 hx
  have hlt : k.toNat < vs.size := by rcases Nat.lt_or_ge k.toNat vs.size with q | q; exact q; rw [Array.getElem?_eq_none q] at e2; cases e2
  exact P.getItem_tuple e1 (by lia) hk (seqIndex_nat h0 hlt) e2 (tok0 (Q := Q) hs (by rw [e3]; exact h))
theorem b_add {Q : AV → St → Prop} {σ : St} {i j : Int} (h : Q (.int (i + j)) σ) : AT2S G A (binaryOp .Add) (.int i) (.int j) Q σ := b_add_h (Q := kh Q σ.m) (H := σ.H)  h
theorem b_sub {Q : AV → St → Prop} {σ : St} {i j : Int} (h : Q (.int (i - j)) σ) : AT2S G A (binaryOp .Sub) (.int i) (.int j) Q σ := b_sub_h (Q := kh Q σ.m) (H := σ.H)  h
theorem b_mul {Q : AV → St → Prop} {σ : St} {i j : Int} (hm : IntMulOk i j) (h : Q (.int (i * j)) σ) : AT2S G A (binaryOp .Mult) (.int i) (.int j) Q σ := b_mul_h (Q := kh Q σ.m) (H := σ.H) hm h
theorem b_mod {Q : AV → St → Prop} {σ : St} {i j : Int} (hj : j ≠ 0) (h : Q (.int (i.fmod j)) σ) : AT2S G A (binaryOp .Mod) (.int i) (.int j) Q σ := b_mod_h (Q := kh Q σ.m) (H := σ.H) hj h
theorem b_div {Q : AV → St → Prop} {σ : St} {i j : Int} (hj : j ≠ 0) (hp : Builtin.divisionGoesByPylong i j = false) (h : Q (.int (i.fdiv j)) σ) : AT2S G A (binaryOp .FloorDiv) (.int i) (.int j) Q σ := b_div_h (Q := kh Q σ.m) (H := σ.H) hj hp h
theorem b_pow {Q : AV → St → Prop} {σ : St} {i j : Int} (hj : 0 ≤ j) (hz : (Builtin.Int.intBits i : Int) * j ≤ 2 ^ 27) (h : Q (.int (i ^ j.toNat)) σ) : AT2S G A (binaryOp .Pow) (.int i) (.int j) Q σ := b_pow_h (Q := kh Q σ.m) (H := σ.H) hj hz h
theorem i_add {Q : AV → St → Prop} {σ : St} {i j : Int} (h : Q (.int (i + j)) σ) : AT2S G A (inplaceOp .Add) (.int i) (.int j) Q σ := i_add_h (Q := kh Q σ.m) (H := σ.H)  h
theorem u_neg {Q : AV → St → Prop} {σ : St} {i : Int} (h : Q (.int (-i)) σ) : AT1S G A (unaryOp .USub) (.int i) Q σ := u_neg_h (Q := kh Q σ.m) (H := σ.H)  h
theorem c_lt {Q : AV → St → Prop} {σ : St} {i j : Int} (h : Q (.bool (decide (i < j))) σ) : AT2S G A (compareOp .Lt) (.int i) (.int j) Q σ := c_lt_h (Q := kh Q σ.m) (H := σ.H)  h
theorem c_gt {Q : AV → St → Prop} {σ : St} {i j : Int} (h : Q (.bool (decide (j < i))) σ) : AT2S G A (compareOp .Gt) (.int i) (.int j) Q σ := c_gt_h (Q := kh Q σ.m) (H := σ.H)  h
theorem c_le {Q : AV → St → Prop} {σ : St} {i j : Int} (h : Q (.bool (decide (i ≤ j))) σ) : AT2S G A (compareOp .LtE) (.int i) (.int j) Q σ := c_le_h (Q := kh Q σ.m) (H := σ.H)  h
theorem c_ge {Q : AV → St → Prop} {σ : St} {i j : Int} (h : Q (.bool (decide (j ≤ i))) σ) : AT2S G A (compareOp .GtE) (.int i) (.int j) Q σ := c_ge_h (Q := kh Q σ.m) (H := σ.H)  h
theorem c_eqi {Q : AV → St → Prop} {σ : St} {i j : Int} (h : Q (.bool (decide (i = j))) σ) : AT2S G A (compareOp .Eq) (.int i) (.int j) Q σ := c_eqi_h (Q := kh Q σ.m) (H := σ.H)  h
theorem c_nei {Q : AV → St → Prop} {σ : St} {i j : Int} (h : Q (.bool (decide (i ≠ j))) σ) : AT2S G A (compareOp .NotEq) (.int i) (.int j) Q σ := c_nei_h (Q := kh Q σ.m) (H := σ.H)  h
theorem c_eqs {Q : AV → St → Prop} {σ : St} {x y : Str} (h : Q (.bool (decide (x = y))) σ) : AT2S G A (compareOp .Eq) (.str x) (.str y) Q σ := c_eqs_h (Q := kh Q σ.m) (H := σ.H)  h
theorem c_nes {Q : AV → St → Prop} {σ : St} {x y : Str} (h : Q (.bool (decide (x ≠ y))) σ) : AT2S G A (compareOp .NotEq) (.str x) (.str y) Q σ := c_nes_h (Q := kh Q σ.m) (H := σ.H)  h
theorem c_is {Q : AV → St → Prop} {σ : St} {a : AV} (ho : a ≠ .other) (h : Q (.bool (isN a)) σ) : AT2S G A (compareOp .Is) a .none Q σ := c_is_h (Q := kh Q σ.m) (H := σ.H) ho h
theorem c_isnot {Q : AV → St → Prop} {σ : St} {a : AV} (ho : a ≠ .other) (h : Q (.bool (!isN a)) σ) : AT2S G A (compareOp .IsNot) a .none Q σ := c_isnot_h (Q := kh Q σ.m) (H := σ.H) ho h
theorem b_adds {Q : AV → St → Prop} {σ : St} {x y : Str} (hz : x.length + y.length ≤ sizeLine) (h : Q (.str (x ++ y)) σ) : AT2S G A (binaryOp .Add) (.str x) (.str y) Q σ := b_adds_h (Q := kh Q σ.m) (H := σ.H) hz h
theorem b_addl {Q : AV → St → Prop} {m : Str → Option AV} {l b : Addr} {xs ys : List AV} (hl : H l = some (.list xs)) (hb : H b = some (.list ys)) (hz : xs.length + ys.length ≤ sizeLine) (h : ∀ a, H a = none → Q (.ref a) ⟨upd H a (.list (xs ++ ys)), m⟩) : AT2S G A (binaryOp .Add) (.ref l) (.ref b) Q ⟨H, m⟩ := b_addl_h (Q := kh Q m) hl hb hz h
end
end Mine
namespace Mine
/-- the library's ledger rules, taken with everything that stands in the heap -/
theorem snap {h : Heap} {L d : Addr} {m : Str → Option Value} {od : Obj} (hn : h.Ns L m) (hd : h.get? d = some od) (ne : d ≠ L) :
    ∃ (h₀ : Heap) (post : List (Addr × Obj)), Fr h₀ L h m ∧ News h₀ L h ((d, od) :: post) ∧ (∀ p ∈ post, p.1 ≠ d) ∧
      ∀ h' od', Fr h₀ L h' m → News h₀ L h' ((d, od') :: post) → h'.get? d = some od' ∧ h'.Ns L m ∧ ∀ b ob, b ≠ d → b ≠ L → h.get? b = some ob → h'.get? b = some ob := by
  have e0 : ∀ b, (⟨#[], {}⟩ : Heap).get? b = none := fun b => by simp [Heap.get?]
  let post := (List.range h.objs.size).filterMap fun b => if b = d ∨ b = L then none else (h.get? b).map fun o => (b, o)
  have hp : ∀ p ∈ post, h.get? p.1 = some p.2 ∧ p.1 ≠ d ∧ p.1 ≠ L := fun p hp => by
    obtain ⟨b, _, e⟩ := List.mem_filterMap.mp hp
    split at e
    · cases e
    · rename_i q
      obtain ⟨o, e1, rfl⟩ := Option.map_eq_some_iff.mp e
      exact ⟨e1, fun z => q (.inl z), fun z => q (.inr z)⟩
  refine ⟨⟨#[], {}⟩, post, ⟨hn, (fun b o e => by rw [e0] at e; cases e), Nat.zero_le _⟩, fun p hm => ?_, fun p hm => (hp p hm).2.1, fun h' od' F N => ⟨(N _ (.head _)).1, F.ns, fun b ob n1 n2 e => ?_⟩⟩
  · rcases List.mem_cons.mp hm with rfl | hm
    · exact ⟨hd, ne, e0 _⟩
    · exact ⟨(hp p hm).1, (hp p hm).2.2, e0 _⟩
  · have : (b, ob) ∈ post := List.mem_filterMap.mpr ⟨b, List.mem_range.mpr (Heap.lt_size e), by rw [if_neg (fun z => z.elim n1 n2), e]; rfl⟩
    exact (N _ (.tail _ this)).1
/-! dicts by str keys -/
noncomputable def dput (x : Str) (v : AV) : List (Str × AV) → List (Str × AV)
  | [] => [(x, v)]
  | e :: r => if e.1 = x then (x, v) :: r else e :: dput x v r
theorem absE_key {P : Params} {d : DictEntry} {p : Str × AV} (e : absE d = absK P p) : ∃ t, d.key = .str p.1 t ∧ d.hash = PyData.keyHash P p.1 ∧ abs d.val = p.2 := by
  unfold absE absK at e
  obtain ⟨e1, e2⟩ := Prod.mk.inj e
  obtain ⟨e2, e3⟩ := Prod.mk.inj e2
  obtain ⟨t, e2⟩ := abs_str e2
  exact ⟨t, e2, e1, e3⟩
theorem isStr_str (y x : Str) (t : Tok) : (Value.str y t).isStr x = decide (y = x) := by
  show (y == x) = _
  rw [Bool.eq_iff_iff]; simp
theorem getL_abs {P : Params} (x : Str) : ∀ {ds : List DictEntry} {es : List (Str × AV)}, ds.map absE = es.map (absK P) →
    ∃ r, getL x ds = some r ∧ r.map abs = es.lookup x ∧ ds.any (·.refKey) = false
  | [], [], _ => ⟨none, rfl, rfl, rfl⟩
  | d :: ds, p :: es, e => by
    simp only [List.map_cons, List.cons.injEq] at e
    obtain ⟨t, k1, k2, k3⟩ := absE_key e.1
    obtain ⟨r, h1, h2, h3⟩ := getL_abs x e.2
    have rk : d.refKey = false := by unfold DictEntry.refKey; rw [k1]
    unfold getL
    rw [List.find?_cons, k1, isStr_str, List.lookup_cons]
    by_cases q : p.1 = x
    · subst q
      refine ⟨some d.val, by simp, by simp [k3], by simp [List.any_cons, rk, h3]⟩
    · have q' : (x == p.1) = false := by simpa using fun z : x = p.1 => q z.symm
      simp only [q, decide_false, q', List.any_cons, rk, Bool.false_or]
      unfold getL at h1
      exact ⟨r, h1, h2, h3⟩
  | [], _ :: _, e => by cases e
  | _ :: _, [], e => by cases e
theorem putL_abs {P : Params} (x : Str) (t : Tok) (v : Value) : ∀ {ds : List DictEntry} {es : List (Str × AV)}, ds.map absE = es.map (absK P) →
    (putL x (PyData.keyHash P x) (.str x t) v ds).map absE = (dput x (abs v) es).map (absK P)
  | [], [], _ => rfl
  | d :: ds, p :: es, e => by
    simp only [List.map_cons, List.cons.injEq] at e
    obtain ⟨u, k1, k2, k3⟩ := absE_key e.1
    have ih := putL_abs x t v e.2
    unfold putL dput
    rw [k1, isStr_str]
    by_cases q : p.1 = x
    · subst q
      simp only [decide_true, if_true, List.map_cons, e.2]
      congr 1
      unfold absE absK; simp [k2, abs]
    · rw [if_neg (by simp [q]), if_neg q, List.map_cons, List.map_cons, ih, e.1]
  | [], _ :: _, e => by cases e
  | _ :: _, [], e => by cases e
theorem putL_len (x : Str) (k : Int) (t v : Value) : ∀ ds : List DictEntry, (putL x k t v ds).length ≤ ds.length + 1
  | [] => Nat.le_refl _
  | d :: ds => by
    unfold putL
    split
    · simp
    · simpa using putL_len x k t v ds
/-- a class whose instances bear the name as a plain attribute -/
structure Cls (G : Md) (C : Addr) (x : Str) : Prop where
  get : plainGet G.K C x = true
  dict : hasDictIn G.K C = true
  none : findIn G.K (.ref C) x = some none
  set : findIn G.K (.ref C) "__setattr__" = some (some (.builtin "object.__setattr__"))
  over : plainOver G.K C = true
section
variable {G : Md} {A : Around} {env : Env} {σ : St} {H : AH}
theorem HR.inst {h : Heap} {x C d : Addr} {es : List (Str × AV)} (R : HR G H h) (hx : H x = some (.inst C d)) (hd : H d = some (.dict es)) :
    ∃ ds n, InstAt h x (instObj C d) C (some (dictOf ds n)) ∧ h.get? d = some (dictOf ds n) ∧ ds.map absE = es.map (absK G.w.params) := by
  obtain ⟨_, ob, ho, rfl⟩ := R.obj x _ hx
  obtain ⟨_, ob', ho', ds, n, rfl, r⟩ := R.obj d _ hd
  have e : dictOf ds.toList n = { cls := .type "dict", dict := Option.none, data := .dict ds n, slots := #[] } := by simp [dictOf]
  refine ⟨ds.toList, n, ⟨ho, rfl, rfl, ?_⟩, ?_, r⟩
  · rw [e]; exact ho'
  · rw [e]; exact ho'
theorem a_get {x C d : Addr} {name : Str} {es : List (Str × AV)} {v : AV} {Q : AV → AH → Prop} {ex : Bool} (gd : Gd G) (hx : H x = some (.inst C d)) (hd : H d = some (.dict es)) (c : Cls G C name) (hv : es.lookup name = some v) (nb : ∀ i, v ≠ .bi i) (h : Q v H) :
    AT1 G A (fun o => getAttr o name ex) (.ref x) Q H := fun o eo s hs => by
  rw [abs_ref eo]
  obtain ⟨ds, n, I, D, r⟩ := hs.inst hx hd
  obtain ⟨rv, e1, e2, _⟩ := getL_abs name r
  rw [hv] at e2
  obtain ⟨u, rfl, eu⟩ := Option.map_eq_some_iff.mp e2
  refine get_value (gd.X.keeps hs.keep) I (plainGet_of c.get).1 (findObj_own c.dict c.none rfl e1) ?_ (tok1 (Q := Q) hs (by rw [eu]; exact h))
  cases u with
  | builtin i => exact absurd eu.symm (nb i)
  | _ => rfl
/-- one object of the abstract heap changed, the frame's names as they were -/
theorem news_step {h h' : Heap} {d : Addr} {o₀ o : AObj} {od' : Obj} {mm : Str → Option Value} (eo : EnvOK env) (hs : FR G env σ h) (hd : σ.H d = some o₀) (b1 : h'.get? d = some od') (r : ORel G.w.params o od')
    (b2 : h'.Ns env.locals mm) (z : ∀ x v, env.kindOf x = some .local → σ.m x = some v → ∃ r, mm x = some r ∧ abs r = v) (b3 : ∀ b ob, b ≠ d → b ≠ env.locals → h.get? b = some ob → h'.get? b = some ob) :
    FStep G env σ h ⟨upd σ.H d o, σ.m⟩ h' := by
  have dl : ∀ b, own env b → b ≠ d := fun b ob q => by have := (hs.own b ob).1; rw [q, hd] at this; cases this
  refine ⟨⟨⟨(upd_ne _ _ (fun p : sysModules = d => by rw [← p, hs.hr.mods] at hd; cases hd)).trans hs.hr.mods, fun b o e => ?_, fun a o e => ?_⟩, ⟨⟨mm, b2, z⟩, fun y k hc => ?_, hs.lr.dom⟩, fun b ob => ⟨?_, (hs.own b ob).2⟩⟩, fun b ob e n o => ?_, fun a e => ?_⟩
  · have hb : b ≠ d := fun q => by obtain ⟨z0, _⟩ := hs.hr.obj d _ hd; rw [q, z0] at e; cases e
    have hb' : b ≠ env.locals := fun q => by have := (hs.own b (.inl q)).2; rw [this] at e; cases e
    exact b3 b o hb hb' (hs.hr.keep b o e)
  · change upd σ.H d _ a = some o at e
    by_cases q : a = d
    · subst q
      rw [upd_same] at e; cases e
      obtain ⟨z0, _⟩ := hs.hr.obj a _ hd
      exact ⟨z0, _, b1, r⟩
    · rw [upd_ne _ _ q] at e
      obtain ⟨z0, ob, e', r'⟩ := hs.hr.obj a o e
      have hb' : a ≠ env.locals := fun q => by have := (hs.own a (.inl q)).1; rw [this] at e; cases e
      exact ⟨z0, ob, b3 a ob q hb' e', r'⟩
  · obtain ⟨ov, ⟨oc, hv, hv'⟩, zc⟩ := hs.lr.cl y k hc
    exact ⟨ov, ⟨oc, b3 k oc (dl k (.inr ⟨y, hc⟩)) (fun q => eo.locals y (q ▸ hc)) hv, hv'⟩, zc⟩
  · show upd σ.H d _ b = none
    rw [upd_ne _ _ (dl b ob)]; exact (hs.own b ob).1
  · exact b3 b ob (fun q => by rw [q, hd] at n; cases n) (fun q => o (.inl q)) e
  · change upd σ.H d _ a ≠ none at e
    by_cases q : a = d
    · subst q; left; rw [hd]; exact Option.some_ne_none _
    · rw [upd_ne _ _ q] at e; exact .inl e
theorem a_set {x C d : Addr} {name : Str} {es : List (Str × AV)} {v : Value} {Q : Unit → St → Prop} (eo : EnvOK env) (gd : Gd G) (hx : σ.H x = some (.inst C d)) (hd : σ.H d = some (.dict es)) (c : Cls G C name) (hz : es.length < 1000)
    (h : Q () ⟨upd σ.H d (.dict (dput name (abs v) es)), σ.m⟩) : WF G A env (setAttr (.ref x) name v) Q σ := fun s hs => by
  obtain ⟨ds, n, I, D, r⟩ := hs.hr.inst hx hd
  obtain ⟨rv, e1, e2, rk⟩ := getL_abs name r
  obtain ⟨mm, hn, z⟩ := hs.lr.ns
  have ne : d ≠ env.locals := fun e => by have := (hs.own d (.inl e)).1; rw [this] at hd; cases hd
  have X := gd.X.keeps hs.hr.keep
  refine set_plain X I c.set ?_
  obtain ⟨h₀, post, F, N, hp, back⟩ := snap hn D ne
  have ed : lookIn name (dictOf ds n) = getL name ds := rfl
  have l1 : (putL name (PyData.keyHash G.w.params name) (.str name (s.toks + 1)) v ds).length ≤ 1000 := by
    have l2 := putL_len name (PyData.keyHash G.w.params name) (.str name (s.toks + 1)) v ds
    have l : ds.length = es.length := by simpa using congrArg List.length r
    lia
  refine osa_dict (s := { s with toks := s.toks + 1 }) (pre := []) (post := post) F N X I rfl c.over (by unfold takerIn; rw [c.none]; rfl) c.dict (by rw [ed, e1]; rfl) (fun _ hm => nomatch hm) hp (putName_dict ..) rfl l1 fun h' F' N' => ?_
  obtain ⟨b1, b2, b3⟩ := back h' _ F' N'
  exact ⟨_, news_step (o := .dict (dput name (abs v) es)) eo hs hd b1 ⟨_, _, rfl, putL_abs name _ v r⟩ b2 z b3, ⟨rfl, rfl, rfl⟩, h⟩
end
end Mine
namespace Mine
section
variable {G : Md} {A : Around} {env : Env} {σ : St} {pos : Pos} {H : AH}
/-! attributes -/
noncomputable def ATTR (G : Md) (A : Around) (env : Env) (x : Str) (o : AV) (Q : AV → St → Prop) (σ : St) : Prop := AT1 G A (fun v => getAttr v x true) o (fun v H' => Q v ⟨H', σ.m⟩) σ.H
noncomputable abbrev kat (G : Md) (A : Around) (env : Env) (attr : Str) (Q : AV → St → Prop) : AV → St → Prop := fun ov σ => ATTR G A env attr ov Q σ
theorem we_Attr {value : Expr} {attr : Str} {Q : AV → St → Prop} (h : WE G A env value (kat G A env attr Q) σ) (hb : attributeBase value attr env (eval value env) = eval value env) : WE G A env (.Attribute value attr pos) Q σ := fun s hs =>
  Attribute_any_ (WF.go0 hs h fun v s₁ σ₁ S₁ X₁ h₁ => WF.go hs S₁ X₁ (lift1 rfl h₁) fun u s₂ σ₂ S₂ X₂ h₂ => ⟨σ₂, S₂, X₂, h₂⟩) (by
    have e : eval (.Attribute value attr pos) env = (do
      let o ← attributeBase value attr env (eval value env)
      standAt pos.atName
      let r ← holding [o] (getAttr o attr true)
      letTemporaryGo value o r
      pure r) := rfl
    rw [e, hb])
theorem attr_get {x C d : Addr} {name : Str} {es : List (Str × AV)} {v : AV} {Q : AV → St → Prop} (gd : Gd G) (hx : σ.H x = some (.inst C d)) (hd : σ.H d = some (.dict es)) (c : Cls G C name) (hv : es.lookup name = some v) (nb : ∀ i, v ≠ .bi i) (h : Q v σ) : ATTR G A env name (.ref x) Q σ :=
  a_get gd hx hd c hv nb h
/-- what a store into an attribute asks -/
noncomputable def SETA (G : Md) (attr : Str) (o v : AV) (Q : St → Prop) (σ : St) : Prop := ∃ x C d es, o = .ref x ∧ σ.H x = some (.inst C d) ∧ σ.H d = some (.dict es) ∧ Cls G C attr ∧ es.length < 1000 ∧ Q ⟨upd σ.H d (.dict (dput attr v es)), σ.m⟩
noncomputable abbrev ksa (G : Md) (attr : Str) (v : AV) (Q : AFl → St → Prop) : AV → St → Prop := fun ov σ => SETA G attr ov v (Q .next) σ
noncomputable abbrev kst (G : Md) (A : Around) (env : Env) (o : Expr) (attr : Str) (Q : AFl → St → Prop) : AV → St → Prop := fun v σ => WE G A env o (ksa G attr v Q) σ
theorem wx_AssignA {o value : Expr} {attr : Str} {pos' : Pos} {Q : AFl → St → Prop} (eo : EnvOK env) (gd : Gd G) (h : WE G A env value (kst G A env o attr Q) σ)
    (hs : swapsWith value (some (.Attribute o attr pos')) pos.line env = pure false) : WX G A env (.Assign [.Attribute o attr pos'] value pos) Q σ := fun s hs' =>
  plainObj_wpAny_Assign_Attribute (WF.go0 hs' h fun v s₁ σ₁ S₁ X₁ h₁ => WF.go hs' S₁ X₁ h₁ fun ov s₂ σ₂ S₂ X₂ ⟨x, C, d, es, e, hx, hd, c, hz, h₂⟩ => by
    rw [abs_ref e]
    exact WF.go hs' S₂ X₂ (a_set (Q := fun _ σ' => Q .next σ') eo gd hx hd c hz h₂) fun _ s₃ σ₃ S₃ X₃ h₃ => ⟨σ₃, S₃, X₃, h₃⟩) hs
theorem wx_AugA {o value : Expr} {attr : Str} {op : Operator} {pos' : Pos} {Q : AFl → St → Prop} (eo : EnvOK env) (gd : Gd G)
    (h : WE G A env o (fun ov σ₁ => ATTR G A env attr ov (fun old σ₂ => WE G A env value (fun v σ₃ => AT2S G A (inplaceOp op) old v (fun r σ₄ => SETA G attr ov r (Q .next) σ₄) σ₃) σ₂) σ₁) σ) :
    WX G A env (.AugAssign (.Attribute o attr pos') op value pos) Q σ := fun s hs' =>
  PySem.wpAny_AugAssign_AttributeAny (WF.go0 hs' h fun ov s₁ σ₁ S₁ X₁ h₁ => WF.go hs' S₁ X₁ (lift1 rfl h₁) fun old s₂ σ₂ S₂ X₂ h₂ => WF.go hs' S₂ X₂ h₂ fun v s₃ σ₃ S₃ X₃ h₃ =>
    WF.go hs' S₃ X₃ (lift2 (Q := fun r σ' => SETA G attr (abs ov) r (Q .next) σ') rfl rfl h₃) fun r s₄ σ₄ S₄ X₄ ⟨x, C, d, es, e, hx, hd, c, hz, h₄⟩ => by
    rw [abs_ref e]
    exact WF.go hs' S₄ X₄ (a_set (Q := fun _ σ' => Q .next σ') eo gd hx hd c hz h₄) fun _ s₅ σ₅ S₅ X₅ h₅ => ⟨σ₅, S₅, X₅, h₅⟩)
/-! items -/
noncomputable def SUB (G : Md) (A : Around) (env : Env) (value slice : Expr) (o i : AV) (Q : AV → St → Prop) (σ : St) : Prop := ∀ v u, abs v = o → abs u = i → WF G A env (subscriptTail value slice v u) (fun r σ' => Q (abs r) σ') σ
noncomputable abbrev ksi (G : Md) (A : Around) (env : Env) (value slice : Expr) (o : AV) (Q : AV → St → Prop) : AV → St → Prop := fun i σ => SUB G A env value slice o i Q σ
noncomputable abbrev ksu (G : Md) (A : Around) (env : Env) (value slice : Expr) (Q : AV → St → Prop) : AV → St → Prop := fun o σ => WE G A env slice (ksi G A env value slice o Q) σ
theorem we_Sub {value slice : Expr} {Q : AV → St → Prop} (h : WE G A env value (ksu G A env value slice Q) σ) : WE G A env (.Subscript value slice pos) Q σ := fun s hs =>
  Subscript_ (WF.go0 hs h fun o s₁ σ₁ S₁ X₁ h₁ => WF.go hs S₁ X₁ h₁ fun i s₂ σ₂ S₂ X₂ h₂ => WF.after hs S₂ X₂ (h₂ _ _ rfl rfl))
/-- the slice is no written one -/
noncomputable def NoSl (slice : Expr) : Prop := ∀ o i, subscripted slice false o i = operate [o, i] (getItem o i)
theorem sub_list_s {value slice : Expr} {l : Addr} {xs : List AV} {k : Int} {x : AV} {Q : AV → St → Prop} (ns : NoSl slice) (hl : σ.H l = some (.list xs)) (h0 : 0 ≤ k) (hk : k < 2 ^ 63) (hx : xs[k.toNat]? = some x) (h : Q x σ) : SUB G A env value slice (.ref l) (.int k) Q σ := fun v u ev eu s hs => by
  obtain ⟨vs, n, e1, r1⟩ := hs.hr.list hl
  have T : s.TypeIs v "list" := by rw [abs_ref ev]; exact e1.isList.typeIs
  exact tail_any T slot_list_getitem.lookup (WF.of_WT (Q := fun r σ' => Q (abs r) σ') (g_list (Q := fun v H' => Q v ⟨H', σ.m⟩) hl h0 hk hx h v u ev eu) s hs) (ns v u)
theorem sub_tup_s {value slice : Expr} {l : Addr} {xs : List AV} {k : Int} {x : AV} {Q : AV → St → Prop} (ns : NoSl slice) (hl : σ.H l = some (.tup xs)) (h0 : 0 ≤ k) (hk : k < 2 ^ 63) (hx : xs[k.toNat]? = some x) (h : Q x σ) : SUB G A env value slice (.ref l) (.int k) Q σ := fun v u ev eu s hs => by
  obtain ⟨vs, n, e1, r1⟩ := hs.hr.tup hl
  have T : s.TypeIs v "tuple" := by rw [abs_ref ev]; exact ⟨_, e1, rfl⟩
  exact tail_any T slot_tuple_getitem.lookup (WF.of_WT (Q := fun r σ' => Q (abs r) σ') (g_tup (Q := fun v H' => Q v ⟨H', σ.m⟩) hl h0 hk hx h v u ev eu) s hs) (ns v u)
theorem sub_list {value slice : Expr} {l : Addr} {xs : List AV} {k : Int} {x : AV} {Q : AV → St → Prop} {m : Str → Option AV} (ns : NoSl slice) (hl : H l = some (.list xs)) (h0 : 0 ≤ k) (hk : k < 2 ^ 63) (hx : xs[k.toNat]? = some x) (h : Q x ⟨H, m⟩) : SUB G A env value slice (.ref l) (.int k) Q ⟨H, m⟩ := sub_list_s ns hl h0 hk hx h
theorem sub_tup {value slice : Expr} {l : Addr} {xs : List AV} {k : Int} {x : AV} {Q : AV → St → Prop} {m : Str → Option AV} (ns : NoSl slice) (hl : H l = some (.tup xs)) (h0 : 0 ≤ k) (hk : k < 2 ^ 63) (hx : xs[k.toNat]? = some x) (h : Q x ⟨H, m⟩) : SUB G A env value slice (.ref l) (.int k) Q ⟨H, m⟩ := sub_tup_s ns hl h0 hk hx h
/-! calls -/
noncomputable def CF (G : Md) (A : Around) (env : Env) (pos : Pos) (f : AV) (args : List Expr) (Q : AV → St → Prop) (σ : St) : Prop := ∀ v, abs v = f → WF G A env (callWith pos v [] (backTo pos (starEach args env)) []) (fun r σ' => Q (abs r) σ') σ
noncomputable def CV (G : Md) (A : Around) (f : Value) (vs : List AV) (Q : AV → AH → Prop) (H : AH) : Prop := ∀ us, us.map abs = vs → WT G A (call f us) (fun r H' => Q (abs r) H') H
noncomputable abbrev kcf (G : Md) (A : Around) (env : Env) (pos : Pos) (args : List Expr) (Q : AV → St → Prop) : AV → St → Prop := fun f σ => CF G A env pos f args Q σ
noncomputable def kcv (G : Md) (A : Around) (f : Value) (Q : AV → St → Prop) : List AV → St → Prop := fun vs σ => CV G A f vs (kh Q σ.m) σ.H
theorem kcv_i {f : Value} {Q : AV → St → Prop} {vs : List AV} {H : AH} {m : Str → Option AV} (h : CV G A f vs (kh Q m) H) : kcv G A f Q vs ⟨H, m⟩ := h
theorem we_Call {id : Str} {p : Pos} {args : List Expr} {Q : AV → St → Prop} (h : WE G A env (.Name id p) (kcf G A env pos args Q) σ) : WE G A env (.Call (.Name id p) args [] pos) Q σ := fun s hs =>
  wpAny_Call_Name_kw (WF.go0 hs h fun v s₁ σ₁ S₁ X₁ h₁ => WF.after hs S₁ X₁ (h₁ _ rfl))
theorem evalArgs_l {f : Value} {args : List (Bool × Sem Value)} {M : Model} {A : Around} {E : Value → Shared → Prop} {s : Shared} {Q : Args → Shared → Prop} (hn : args.any (·.1) = false) (h : wpAny M A (spliced args) (fun vs s' => Q ⟨vs, []⟩ s') E s) : wpAny M A (evalArgs f true args []) Q E s := by
  cases args with
  | nil =>
    unfold evalArgs
    show wpAny M A (spliced [] >>= _) Q E s
    refine wpAny_bind (wpAny_mono h (fun vs s' hq => ?_) fun _ _ e => e)
    exact wpAny_bind (wpAny_pure (wpAny_holding (wpAny_bind (wpAny_pure (wpAny_bind (wpAny_pure (wpAny_pure hq))))))) 
  | cons p r =>
    obtain ⟨b, x⟩ := p
    simp only [List.any_cons, Bool.or_eq_false_iff] at hn
    obtain ⟨rfl, _⟩ := hn
    exact Calls.evalArgs_plain h
/-- no starred argument -/
noncomputable def NoSt (env : Env) (pos : Pos) (args : List Expr) : Prop := (backTo pos (starEach args env)).any (·.1) = false
/-- a def or a class of the text -/
theorem cf_ref {a : Addr} {args : List Expr} {Q : AV → St → Prop} (gd : Gd G) (hk : keepIn G.K (.ref a) = true) (ns : NoSt env pos args) (h : WL G A env pos args (kcv G A (.ref a) Q) σ) : CF G A env pos (.ref a) args Q σ := fun v ev s hs => by
  rw [abs_ref ev]
  refine callWith_of (P := G.K.In) (by rw [show (backTo pos (starEach args env)).any (·.1) = false from ns]; rfl) (keeps_K hk) (evalArgs_l ns (WF.go0 hs h fun vs s₁ σ₁ S₁ X₁ h₁ => ⟨gd.X.keeps S₁.rel.hr.keep, ?_⟩))
  exact WF.after hs S₁ X₁ (WF.of_WT (Q := fun r σ' => Q (abs r) σ') (h₁ vs rfl))
theorem cf_bi {i : String} {args : List Expr} {Q : AV → St → Prop} (ns : NoSt env pos args) (h : WL G A env pos args (kcv G A (.builtin i) Q) σ) : CF G A env pos (.bi i) args Q σ := fun v ev s hs => by
  rw [abs_bi ev]
  exact Calls.callWith_builtin ns (evalArgs_l ns (WF.go0 hs h fun vs s₁ σ₁ S₁ X₁ h₁ => WF.after hs S₁ X₁ (WF.of_WT (Q := fun r σ' => Q (abs r) σ') (h₁ vs rfl))))
theorem cf_ty {i : String} {args : List Expr} {Q : AV → St → Prop} (ns : NoSt env pos args) (h : WL G A env pos args (kcv G A (.type i) Q) σ) : CF G A env pos (.ty i) args Q σ := fun v ev s hs => by
  rw [abs_ty ev]
  exact PyProof.Rows.callWith_type ns (evalArgs_l ns (WF.go0 hs h fun vs s₁ σ₁ S₁ X₁ h₁ => WF.after hs S₁ X₁ (WF.of_WT (Q := fun r σ' => Q (abs r) σ') (h₁ vs rfl))))
/-! methods of the built-in types -/
/-- the callee's text is plain -/
structure Mth (env : Env) (o : Expr) (name : Str) (apos pos : Pos) (args : List Expr) : Prop where
  base : attributeBase o name env (eval o env) = eval o env
  few : ((backTo pos (starEach args env)).all (fun x => !x.1) && (backToKw pos (keywordEach [] env)).all (fun x => x.1.isSome) && decide (args.length + ([] : List Keyword).length + (if ([] : List Keyword).isEmpty then 0 else 1) < 30)) = true
  line : (apos.endLine == pos.line) = true
theorem we_append {o e : Expr} {apos : Pos} {Q : AV → St → Prop} (m : Mth env o "append" apos pos [e]) (he : starEach [e] env = [(false, eval e env)])
    (h : WE G A env o (fun ov σ₁ => ∃ l, ov = .ref l ∧ (∃ xs, σ₁.H l = some (.list xs)) ∧ WE G A env e (fun v σ₂ => ∃ xs, σ₂.H l = some (.list xs) ∧ xs.length < sizeLine ∧ Q .none ⟨upd σ₂.H l (.list (xs ++ [v])), σ₂.m⟩) σ₁) σ) :
    WE G A env (.Call (.Attribute o "append" apos) [e] [] pos) Q σ := fun s hs =>
  wpAny_Call_method m.base m.few m.line F.plainAttrs_list F.slot_list_append F.type_list_append (WF.go0 hs h fun ov s₁ σ₁ S₁ X₁ ⟨l, eo, ⟨xs, hl⟩, h₁⟩ => by
    rw [abs_ref eo]
    obtain ⟨vs, n, e1, r1⟩ := S₁.rel.hr.list hl
    refine ⟨e1.isList.typeIs, (fun a ea => by cases ea; exact ⟨_, e1, rfl⟩), ?_⟩
    rw [he]
    refine P.append_list (WF.go hs S₁ X₁ h₁ fun v s₂ σ₂ S₂ X₂ ⟨ys, hl₂, hz, h₂⟩ => ?_)
    obtain ⟨us, n', e2, r2⟩ := S₂.rel.hr.list hl₂
    obtain ⟨H', S, X, q⟩ := S₂.rel.hr.list_upd (Q := fun v H' => Q v ⟨H', σ₂.m⟩) hl₂ e2 (fun x => x.push v) (ys := ys ++ [abs v]) (by simp [r2]) (v := .none) h₂
    exact ⟨us, n', by rw [abs_size r2]; lia, e2, _, S₂.trans (S.toF S₂.rel) hs, X₂.trans X, q⟩)
theorem we_pop {o : Expr} {apos : Pos} {Q : AV → St → Prop} (m : Mth env o "pop" apos pos [])
    (h : WE G A env o (fun ov σ₁ => ∃ l xs x, ov = .ref l ∧ σ₁.H l = some (.list (xs ++ [x])) ∧ xs.length < sizeLine ∧ Q x ⟨upd σ₁.H l (.list xs), σ₁.m⟩) σ) :
    WE G A env (.Call (.Attribute o "pop" apos) [] [] pos) Q σ := fun s hs =>
  wpAny_Call_method m.base m.few m.line F.plainAttrs_list F.slot_list_pop F.type_list_pop (WF.go0 hs h fun ov s₁ σ₁ S₁ X₁ ⟨l, xs, x, eo, hl, hz, h₁⟩ => by
    rw [abs_ref eo]
    obtain ⟨vs, n, e1, r1⟩ := S₁.rel.hr.list hl
    refine ⟨e1.isList.typeIs, (fun a ea => by cases ea; exact ⟨_, e1, rfl⟩), ?_⟩
    have hsz : vs.size = xs.length + 1 := by rw [abs_size r1]; simp
    obtain ⟨y, hy, ey⟩ := abs_at (k := vs.size - 1) r1 (x := x) (by rw [hsz]; simp)
    obtain ⟨H', S, X, q⟩ := S₁.rel.hr.list_upd (Q := fun v H' => Q v ⟨H', σ₁.m⟩) hl e1 (fun z => z.eraseIdxIfInBounds (vs.size - 1)) (ys := xs) (by
      have hlt : vs.size - 1 < vs.size := by lia
      unfold Array.eraseIdxIfInBounds
      rw [dif_pos hlt, Array.toList_eraseIdx]
      obtain ⟨l₁, l₂, el, m₁, m₂⟩ := List.map_eq_append_iff.mp r1
      obtain ⟨u, rfl, -⟩ : ∃ u, l₂ = [u] ∧ True := by
        cases l₂ with
        | nil => cases m₂
        | cons u r => cases r with
          | nil => exact ⟨u, rfl, trivial⟩
          | cons => simp at m₂
      have hl1 : l₁.length = xs.length := by rw [← m₁]; simp
      rw [el, hsz, List.eraseIdx_append_of_length_le (by lia), hl1]
      simp [m₁]) (v := abs y) (by rw [ey]; exact h₁)
    exact P.pop_list e1 hy ⟨_, S₁.trans (S.toF S₁.rel) hs, X₁.trans X, q⟩ (by lia))
theorem we_reverse {o : Expr} {apos : Pos} {Q : AV → St → Prop} (m : Mth env o "reverse" apos pos [])
    (h : WE G A env o (fun ov σ₁ => ∃ l xs, ov = .ref l ∧ σ₁.H l = some (.list xs) ∧ xs.length ≤ sizeLine ∧ Q .none ⟨upd σ₁.H l (.list xs.reverse), σ₁.m⟩) σ) :
    WE G A env (.Call (.Attribute o "reverse" apos) [] [] pos) Q σ := fun s hs =>
  wpAny_Call_method m.base m.few m.line F.plainAttrs_list F.slot_list_reverse F.type_list_reverse (WF.go0 hs h fun ov s₁ σ₁ S₁ X₁ ⟨l, xs, eo, hl, hz, h₁⟩ => by
    rw [abs_ref eo]
    obtain ⟨vs, n, e1, r1⟩ := S₁.rel.hr.list hl
    refine ⟨e1.isList.typeIs, (fun a ea => by cases ea; exact ⟨_, e1, rfl⟩), ?_⟩
    obtain ⟨H', S, X, q⟩ := S₁.rel.hr.list_upd (Q := fun v H' => Q v ⟨H', σ₁.m⟩) hl e1 (fun z => z.reverse) (ys := xs.reverse) (by simp [← r1]) (v := .none) h₁
    exact P.reverse_list e1 ⟨_, S₁.trans (S.toF S₁.rel) hs, X₁.trans X, q⟩ (by rw [abs_size r1]; exact hz))
theorem we_extend {o e : Expr} {apos : Pos} {Q : AV → St → Prop} (m : Mth env o "extend" apos pos [e]) (he : starEach [e] env = [(false, eval e env)])
    (h : WE G A env o (fun ov σ₁ => ∃ l, ov = .ref l ∧ (∃ xs, σ₁.H l = some (.list xs)) ∧ WE G A env e (fun v σ₂ => ∃ b xs ys, v = .ref b ∧ σ₂.H l = some (.list xs) ∧ σ₂.H b = some (.list ys) ∧ xs.length + ys.length ≤ 2 ^ 20 ∧ Q .none ⟨upd σ₂.H l (.list (xs ++ ys)), σ₂.m⟩) σ₁) σ) :
    WE G A env (.Call (.Attribute o "extend" apos) [e] [] pos) Q σ := fun s hs =>
  wpAny_Call_method m.base m.few m.line F.plainAttrs_list F.slot_list_extend F.type_list_extend (WF.go0 hs h fun ov s₁ σ₁ S₁ X₁ ⟨l, eo, ⟨xs, hl⟩, h₁⟩ => by
    rw [abs_ref eo]
    obtain ⟨vs, n, e1, r1⟩ := S₁.rel.hr.list hl
    refine ⟨e1.isList.typeIs, (fun a ea => by cases ea; exact ⟨_, e1, rfl⟩), ?_⟩
    rw [he]
    refine P.extend_list (WF.go hs S₁ X₁ h₁ fun v s₂ σ₂ S₂ X₂ ⟨b, xs', ys, ev, hl₂, hb, hz, h₂⟩ => ?_)
    obtain ⟨us, n', e2, r2⟩ := S₂.rel.hr.list hl₂
    obtain ⟨ws, n'', e3, r3⟩ := S₂.rel.hr.list hb
    obtain ⟨H', S, X, q⟩ := S₂.rel.hr.list_upd (Q := fun v H' => Q v ⟨H', σ₂.m⟩) hl₂ e2 (fun x => x ++ ws) (ys := xs' ++ ys) (by simp [r2, r3]) (v := .none) h₂
    have a1 := abs_size r2
    have a2 := abs_size r3
    refine ⟨b, us, ws, n', n'', ?_, ?_, ?_, abs_ref ev, e2, e3, _, S₂.trans (S.toF S₂.rel) hs, X₂.trans X, q⟩
    · rw [sizeLine_eq]; lia
    · rw [sizeLine_eq]; lia
    · unfold Builtin.List.listTooLong
      simp
      intro _
      rw [a1, a2]
      have := sizeLine_eq
      lia)
end
end Mine
namespace Mine
/-! room for calls -/
structure Ar (D : Nat) (A : Around) : Prop where
  hh : A.handled = none
  dep : A.depth + 4 * D < recursionLimit
  un : A.units + 20 * D + 40 < cLine
theorem Ar.room {D : Nat} {A : Around} (a : Ar D A) : A.depth < recursionLimit := by have := a.dep; lia
theorem Ar.le {D D' : Nat} {A : Around} (a : Ar D A) (h : D' ≤ D) : Ar D' A := ⟨a.hh, by have := a.dep; lia, by have := a.un; lia⟩
theorem Ar.deeper {D : Nat} {A : Around} {env : Env} (a : Ar (D + 1) A) : Ar D (A.deeper env) := ⟨a.hh, by have := a.dep; show A.depth + 1 + 4 * D < _; lia, by have := a.un; show A.units + 3 + 20 * D + 40 < _; lia⟩
theorem Ar.make {D : Nat} {A : Around} {C : Addr} {vals : List Value} {kw : List (Str × Value)} (a : Ar (D + 1) A) : Ar D (A.under (.builtin "type.__call__" ⟨.ref C :: vals, kw⟩)) :=
  ⟨a.hh, by have := a.dep; rw [depth_under_kw]; lia, by
    have := a.un
    have e : (A.under (.builtin "type.__call__" ⟨.ref C :: vals, kw⟩)).units = A.units + 1 := rfl
    rw [e]; lia⟩
/-! a def of the text called -/
noncomputable def retV : AFl → AV
  | .ret v => v
  | _ => .none
noncomputable def bindM (bs : List (Str × AV)) : Str → Option AV := bs.foldl (fun m p => put m p.1 p.2) fun _ => none
noncomputable def CC (G : Md) (A : Around) (f : Addr) (args : List AV) (Q : AV → AH → Prop) (H : AH) : Prop := ∀ us, us.map abs = args → ∀ s, HR G H s.heap →
  codeAny (model G.prog G.w) A (.call (.ref f) ⟨us, []⟩) (fun r s' => match r with | .ok (.ret v) => ∃ H', HStep G H s.heap H' s'.heap ∧ SS s s' ∧ Q (abs v) H' | _ => False) s
theorem CC.cv {G : Md} {A : Around} {f : Addr} {args : List AV} {Q : AV → AH → Prop} {H : AH} (h : CC G A f args Q H) : CV G A (.ref f) args Q H := fun us e s hs =>
  wpAny_call (codeAny_mono (h us e s hs) fun r s' q => by
    rcases r with e | (v | _ | _ | _) <;> first | exact q | exact q.elim)
structure FnOK (G : Md) (f : Addr) (fd : FuncData) (body : List Stmt) : Prop where
  at_ : ∃ oc od osl, G.K.lookup f = some ⟨oc, od, .func fd, osl⟩
  code : codeIn G.K fd.code fd.qualname = true
  body : fd.body = .stmts body
  clo : fd.closure = []
  glob : fd.globals = mainGlobals
  blt : fd.builtins = builtinsNs
  co : fd.scope.isCoroutine = false
  gen : fd.scope.isGenerator = false
  kind : fd.scope.kind = .function
  free : (fd.scope.names.all fun p => p.2 != .free) = true
noncomputable def okParam (sc : Scope) (x : Str) : Bool := (sc.names.lookup x == some .local || sc.names.lookup x == some .cell) && !(x == ("__debug__" : Str)) && !(x == ("__classdict__" : Str))
theorem HR.keeps {G : Md} {H : AH} {h h' : Heap} (R : HR G H h) (k : ∀ b o, h.get? b = some o → h'.get? b = some o) : HR G H h' :=
  ⟨R.mods, fun b o e => k _ _ (R.keep b o e), fun a o e => let ⟨z, ob, e', r⟩ := R.obj a o e; ⟨z, ob, k _ _ e', r⟩⟩
theorem look_none_free {names : List (Str × NameKind)} (h : (names.all fun p => p.2 != .free) = true) (x : Str) : names.lookup x ≠ some .free := fun e => by
  have := List.all_eq_true.mp h _ (mem_of_look e)
  simp at this
theorem cell_unique {cs : List (Str × Addr)} (ap : cs.Pairwise fun x y => x.2 ≠ y.2) {p q : Str × Addr} (hp : p ∈ cs) (hq : q ∈ cs) (e : p.2 = q.2) : p = q := by
  induction cs with
  | nil => cases hp
  | cons a r ih =>
    rw [List.pairwise_cons] at ap
    cases List.mem_cons.mp hp with
    | inl h1 => cases List.mem_cons.mp hq with
      | inl h2 => rw [h1, h2]
      | inr h2 => exact absurd (h1 ▸ e) (ap.1 _ h2)
    | inr h1 => cases List.mem_cons.mp hq with
      | inl h2 => exact absurd (h2 ▸ e).symm (ap.1 _ h1)
      | inr h2 => exact ih ap.2 h1 h2
section
variable {G : Md}
theorem binds_rel {kindOf : Str → Option NameKind} : ∀ (bs : List (Str × Value)) (m : Str → Option AV) (ml mc : Str → Option Value),
    (∀ p ∈ bs, kindOf p.1 = some .local ∨ kindOf p.1 = some .cell) →
    (∀ x v, kindOf x = some .local → m x = some v → ∃ r, ml x = some r ∧ abs r = v) → (∀ x v, kindOf x = some .cell → m x = some v → ∃ r, mc x = some r ∧ abs r = v) →
    (∀ x v, kindOf x = some .local → (bs.map fun p => (p.1, abs p.2)).foldl (fun m p => put m p.1 p.2) m x = some v → ∃ r, bindL kindOf bs ml x = some r ∧ abs r = v) ∧
    (∀ x v, kindOf x = some .cell → (bs.map fun p => (p.1, abs p.2)).foldl (fun m p => put m p.1 p.2) m x = some v → ∃ r, bindC kindOf bs mc x = some r ∧ abs r = v)
  | [], m, ml, mc, _, h1, h2 => ⟨h1, h2⟩
  | (n, v) :: r, m, ml, mc, hk, h1, h2 => by
    simp only [List.map_cons, List.foldl_cons, bindL, bindC]
    refine binds_rel r _ _ _ (fun p hp => hk p (.tail _ hp)) (fun x u kx e => ?_) (fun x u kx e => ?_)
    · rcases put_some e with ⟨rfl, rfl⟩ | ⟨ne, e⟩
      · rw [if_pos kx]; exact ⟨v, if_pos rfl, rfl⟩
      · obtain ⟨q, e1, e2⟩ := h1 x u kx e
        refine ⟨q, ?_, e2⟩
        split
        · exact (if_neg ne).trans e1
        · exact e1
    · rcases put_some e with ⟨rfl, rfl⟩ | ⟨ne, e⟩
      · rw [if_neg (by rw [kx]; intro z; cases z)]; exact ⟨v, if_pos rfl, rfl⟩
      · obtain ⟨q, e1, e2⟩ := h2 x u kx e
        refine ⟨q, ?_, e2⟩
        split
        · exact e1
        · exact (if_neg ne).trans e1
theorem bind_dom : ∀ (bs : List (Str × AV)) (m : Str → Option AV) {x : Str} {v : AV}, bs.foldl (fun m p => put m p.1 p.2) m x = some v → (∃ p ∈ bs, p.1 = x) ∨ m x = some v
  | [], m, x, v, e => .inr e
  | p :: r, m, x, v, e => by
    rcases bind_dom r _ e with ⟨q, hq, rfl⟩ | e
    · exact .inl ⟨q, .tail _ hq, rfl⟩
    · rcases put_some e with ⟨rfl, _⟩ | ⟨_, e⟩
      · exact .inl ⟨p, .head _, rfl⟩
      · exact .inr e
/-- the call's road: bind, walk the body, leave -/
theorem wcall {f : Addr} {fd : FuncData} {body : List Stmt} {ps : List Str} {args : List AV} {Q : AV → AH → Prop} {H : AH} {D : Nat} (gd : Gd G) (ok : FnOK G f fd body)
    (hb : ∀ vals, vals.map abs = args → bindArgs fd ⟨vals, []⟩ = pure (ps.zip vals)) (hp : (ps.all (okParam fd.scope)) = true)
    (h : ∀ A env, Ar D A → EnvOK env → env.scope = fd.scope → WS G A env body (fun fl σ' => Q (retV fl) σ'.H) ⟨H, bindM (ps.zip args)⟩) : ∀ A, Ar (D + 1) A → CC G A f args Q H := fun A ar us eu s hs => by
  obtain ⟨oc, od, osl, hK⟩ := ok.at_
  have X := gd.X.keeps hs.keep
  have zips : (ps.zip us).map (fun p => (p.1, abs p.2)) = ps.zip args := by rw [← eu, List.zip_map_right]; rfl
  have kinds : ∀ p ∈ ps.zip us, fd.scope.names.lookup p.1 = some .local ∨ fd.scope.names.lookup p.1 = some .cell := fun p hm => by
    have := List.all_eq_true.mp hp p.1 (List.of_mem_zip (show (p.1, p.2) ∈ ps.zip us from hm)).1
    unfold okParam at this
    simp only [Bool.and_eq_true, Bool.or_eq_true, beq_iff_eq] at this
    exact this.1.1
  refine codeAny_call_cells (fd := fd) (body := body) (binds := ps.zip us) ar.room (X _ _ hK) rfl (gd.nolimit.keeps hs.keep) (codeRec_of X ok.code) ok.body (hb us eu) ok.clo
    (fun x hx => (kinds x hx).imp id fun e => ⟨e, cellsFrom_some _ _ _ (.inl e)⟩) (fun s₁ IC => ?_) ok.co ok.gen ok.kind
  generalize henv : callEnvC fd s.heap.objs.size f = env at IC
  have e1 : env.locals = s.heap.objs.size := by rw [← henv]; rfl
  have e2 : env.cells = cellsFrom (s.heap.objs.size + 1) fd.scope.names [] := by rw [← henv]; rfl
  have e3 : env.scope = fd.scope := by rw [← henv]; rfl
  have ek : ∀ x, env.kindOf x = fd.scope.names.lookup x := fun x => by unfold Env.kindOf; rw [e3]
  have nofree : ∀ x, env.kindOf x ≠ some .free := fun x => by rw [ek]; exact look_none_free ok.free x
  have eo : EnvOK env := ⟨by rw [e3]; exact ok.kind, by rw [← henv]; exact ok.glob, by rw [← henv]; exact ok.blt, fun x kx => by
      rcases kx with kx | kx
      · rw [e2]; exact cellsFrom_some _ _ _ (.inl (by rw [← ek]; exact kx))
      · exact absurd kx (nofree x),
    fun x y c ex ey => by
      have p1 := mem_of_look ex
      have p2 := mem_of_look ey
      have ap := IC.apart
      exact congrArg Prod.fst (cell_unique ap p1 p2 rfl),
    fun x e => by have := IC.above x _ (mem_of_look e); exact absurd this (Nat.lt_irrefl _)⟩
  have keep := IC.toInCall.keep
  have ow : ∀ b, own env b → s.heap.objs.size ≤ b := fun b ob => by
    rcases ob with rfl | ⟨x, e⟩
    · rw [e1]; exact Nat.le_refl _
    · have := IC.above x b (mem_of_look e); rw [e1] at this; exact Nat.le_of_lt this
  have fresh : ∀ b, own env b → s.heap.get? b = none := fun b ob => by
    cases q : s.heap.get? b with
    | none => rfl
    | some o => exact absurd (Heap.lt_size q) (Nat.not_lt.mpr (ow b ob))
  obtain ⟨bl, bc⟩ := binds_rel (kindOf := env.kindOf) (ps.zip us) (fun _ => none) (fun _ => none) (fun _ => none) (fun p hm => by rw [ek]; exact kinds p hm) (fun _ _ _ e => nomatch e) (fun _ _ _ e => nomatch e)
  rw [zips] at bl bc
  have R : FR G env ⟨H, bindM (ps.zip args)⟩ s₁.heap := by
    refine ⟨hs.keeps keep, ⟨⟨_, IC.toInCall.ns, bl⟩, fun x c e => ⟨_, IC.cell x c e, fun v kx hm => ?_⟩, fun x v hm => ?_⟩, fun b ob => ⟨?_, ?_⟩⟩
    · rcases kx with kx | kx
      · exact bc x v kx hm
      · exact absurd kx (nofree x)
    · rcases bind_dom _ _ hm with ⟨p, hp', rfl⟩ | e
      · have hq := (List.of_mem_zip (show (p.1, p.2) ∈ ps.zip args from hp')).1
        have := List.all_eq_true.mp hp p.1 hq
        unfold okParam at this
        simp only [Bool.and_eq_true, Bool.or_eq_true, beq_iff_eq, Bool.not_eq_true'] at this
        rw [ek]
        exact ⟨this.1.1.imp id .inl, this.1.2, this.2⟩
      · cases e
    · show H b = none
      cases q : H b with
      | none => rfl
      | some o => obtain ⟨_, ob', e', _⟩ := hs.obj b o q; rw [fresh b ob] at e'; cases e'
    · cases q : G.hT.get? b with
      | none => rfl
      | some o => have := hs.keep b o q; rw [fresh b ob] at this; cases this
  obtain ⟨h₁, tk, es, _⟩ := IC.done
  have ss : SS s s₁ := by rw [es]; exact ⟨rfl, rfl, rfl⟩
  have fin : ∀ (v : Value) (av : AV) s', (∃ σ', FStep G env ⟨H, bindM (ps.zip args)⟩ s₁.heap σ' s'.heap ∧ SS s₁ s' ∧ Q av σ'.H) → abs v = av → ∃ H', HStep G H s.heap H' s'.heap ∧ SS s s' ∧ Q (abs v) H' := by
    rintro v _ s' ⟨σ', S, X', q⟩ rfl
    refine ⟨σ'.H, ⟨S.rel.hr, fun b ob e n => S.frame b ob (keep b ob e) n fun o => ?_, fun a e => (S.fresh a e).imp id fun z => ?_⟩, ss.trans X', q⟩
    · rw [fresh b o] at e; cases e
    · cases q : s.heap.get? a with
      | none => rfl
      | some o => rw [keep a o q] at z; cases z
  refine wpAny_mono (h (A.deeper env) env ar.deeper eo e3 s₁ R) (fun fl s' hq => ?_) fun _ _ e => e.elim
  cases fl <;> exact fin _ _ _ hq rfl
/-- an object of a class made -/
theorem cmake {C fI : Addr} {args : List AV} {Q : AV → AH → Prop} {H : AH} {A : Around} (gd : Gd G) (hm : makesIn G.K C = true) (hi : findIn G.K (.ref C) "__init__" = some (some (.ref fI))) (hf : typeIn G.K (.ref fI) = some (.type "function"))
    (h : ∀ A', A' = A ∨ (∃ vals, A' = A.under (.builtin "type.__call__" ⟨.ref C :: vals, []⟩)) → ∀ d x, H d = none → H x = none → x ≠ d → CC G A' fI (.ref x :: args) (fun r H' => r = .none ∧ Q (.ref x) H') (upd (upd H d (.dict [])) x (.inst C d))) : CC G A C args Q H := fun us eu s hs => by
  obtain ⟨hh, g, d, t, os⟩ := s
  have X := gd.X.keeps hs.keep
  obtain ⟨S1, n1⟩ := hs.upd_push (o := .dict []) (ob := emptyDict) ⟨#[], 0, rfl, rfl⟩
  obtain ⟨S2, n2⟩ := S1.rel.upd_push (o := .inst C hh.objs.size) (ob := instObj C hh.objs.size) rfl
  rw [show (hh.push emptyDict).objs.size = hh.objs.size + 1 from Heap.size_push ..] at S2 n2
  refine make_core (makes_of X hm) (looks_findIn X hi) (fun self => bind_fn X self hf) (.inl rfl) ?_
  have nx : H (hh.objs.size + 1) = none := by rw [upd_ne _ _ (Nat.succ_ne_self _)] at n2; exact n2
  refine codeAny_mono (h _ (.inr ⟨us, rfl⟩) hh.objs.size (hh.objs.size + 1) n1 nx (Nat.succ_ne_self _) (.ref (hh.objs.size + 1) :: us) (by simp [abs, eu]) _ S2.rel) fun r s' q => ?_
  rcases r with e | (v | _ | _ | _) <;> first | exact q | exact q.elim | skip
  obtain ⟨H', S3, X3, rfl', q⟩ := q
  refine ⟨abs_none rfl', ⟨H', (S1.trans S2).trans S3, ?_, q⟩⟩
  exact ⟨X3.gens, X3.drawn, X3.os⟩
end
end Mine
namespace Mine
/-! iterators: objects of the heap that no abstract object is -/
structure Itr (G : Md) (A : Around) (I : Addr) (n : Nat) (It : Nat → Heap → Prop) (P : Nat → AV → Prop) (Ok : AH → Prop) : Prop where
  keep : ∀ i h h', It i h → (∀ o, h.get? I = some o → h'.get? I = some o) → It i h'
  at_ : ∀ i h, It i h → ∃ o, h.get? I = some o
  item : ∀ i (s : Shared) H (Q : Option Value → Shared → Prop) (E : Value → Shared → Prop), i < n → It i s.heap → HR G H s.heap → Ok H → (∀ v h' tk, P i (abs v) → It (i + 1) h' → Heap.ExtBut I s.heap h' → Q (some v) { s with heap := h', toks := tk }) → wpAny (model G.prog G.w) A (pyNext (.ref I)) Q E s
  done : ∀ (s : Shared) H (Q : Option Value → Shared → Prop) (E : Value → Shared → Prop), It n s.heap → HR G H s.heap → Ok H → (∀ h' tk, Heap.ExtBut I s.heap h' → Q none { s with heap := h', toks := tk }) → wpAny (model G.prog G.w) A (pyNext (.ref I)) Q E s
  self : ∀ i (s : Shared) (Q : Value → Shared → Prop) (E : Value → Shared → Prop), It i s.heap → Q (.ref I) s → wpAny (model G.prog G.w) A (pyIter (.ref I)) Q E s
  own : ∀ i (s : Shared) (target : Expr) v (Q : Unit → Shared → Prop) (E : Value → Shared → Prop), It i s.heap → Q () s → wpAny (model G.prog G.w) A (letOwnedTupleGo target (.ref I) v) Q E s
theorem letOwned_other {M : Model} {A : Around} {E : Value → Shared → Prop} {s : Shared} {I : Addr} {o : Obj} {T : String} {vs : Array Value} {target : Expr} {v : Value} {Q : Unit → Shared → Prop} (ho : s.heap.get? I = some o) (hc : o.cls = .type T) (hd : o.data = .fields vs)
    (hT : (["enumerate", "zip", "dict_itemiterator", "dict_reverseitemiterator", "odict_iterator", "itertools.zip_longest", "itertools.pairwise"] : List String).contains T = false) (h : Q () s) : wpAny M A (letOwnedTupleGo target (.ref I) v) Q E s := by
  unfold letOwnedTupleGo
  cases target <;> first
    | exact wpAny_pure h
    | (cases v <;> first
        | exact wpAny_pure h
        | (refine wpAny_bind (wpAny_load ho ?_)
           rw [hc, hd]
           dsimp only
           rw [hT, Bool.false_and]
           exact wpAny_pure h))
theorem itr_list {G : Md} {A : Around} (hh : A.handled = none) (I a : Addr) (xs : List AV) (hne : a ≠ I) : Itr G A I xs.length (fun i h => h.IsListIter I a i) (fun i v => xs[i]? = some v) (fun H => H a = some (.list xs)) where
  keep := fun i h h' st k => st.at k
  at_ := fun i h ⟨o, ho, _⟩ => ⟨o, ho⟩
  item := fun i s H Q E hi st R ok hQ => by
    obtain ⟨vs, n, e1, r1⟩ := R.list ok
    have hv : i < vs.size := by rw [abs_size r1]; exact hi
    refine wpAny_pyNext_list_item st e1.isList (x := vs[i]) (by simp [hv]) fun h' hit' hs' => hQ _ h' s.toks ?_ hit' hs'.extBut
    subst r1; simp [hv]
  done := fun s H Q E st R ok hQ => by
    obtain ⟨vs, n, e1, r1⟩ := R.list ok
    exact wpAny_pyNext_list_end hh st e1.isList (by rw [Array.getElem?_eq_none]; rw [abs_size r1]; exact Nat.le_refl _) fun h' he' => hQ h' s.toks he'
  self := fun i s Q E st hQ => wpAny_pyIter_listiter st hQ
  own := fun i s target v Q E ⟨o, ho, hc, hd⟩ hQ => letOwned_other ho hc hd (by decide) hQ
theorem itr_range {G : Md} {A : Around} (hh : A.handled = none) (I : Addr) (n : Nat) : Itr G A I n (fun i h => IsRangeIter h I (i : Int) ((n : Int) - i) 1) (fun i v => v = .int i) (fun _ => True) where
  keep := fun i h h' st k => k _ st
  at_ := fun i h ho => ⟨_, ho⟩
  item := fun i s H Q E hi st R ok hQ => by
    refine wpAny_pyNext_range_item st (by lia) fun h' hit' hs' => hQ _ h' (s.toks + 1) rfl ?_ hs'.extBut
    have e : ((n : Int) - i - 1) = ((n : Int) - ((i + 1 : Nat) : Int)) := by push_cast; lia
    have e2 : ((i : Int) + 1) = ((i + 1 : Nat) : Int) := by push_cast; rfl
    rw [← e, ← e2]; exact hit'
  done := fun s H Q E st R ok hQ => wpAny_pyNext_range_end hh st (by lia) fun h' he' => hQ h' s.toks he'
  self := fun i s Q E st hQ => wpAny_pyIter_rangeiter st hQ
  own := fun i s target v Q E ho hQ => letOwned_other ho rfl rfl (by decide) hQ
section
variable {G : Md} {A : Around} {env : Env} {σ : St} {pos : Pos}
/-- a raw object changes -/
theorem FStep.raw {h h' : Heap} {I : Addr} (R : FR G env σ h) (nI : σ.H I = none) (oI : ¬ own env I) (tI : G.hT.get? I = none) (e : Heap.ExtBut I h h') : FR G env σ h' := by
  refine ⟨⟨R.hr.mods, fun b o q => e b o (fun z => by rw [z, tI] at q; cases q) (R.hr.keep b o q), fun a o q => ?_⟩, R.lr.keeps fun b o ob q => e b o (fun z => oI (z ▸ ob)) q, R.own⟩
  obtain ⟨z, ob, e', r⟩ := R.hr.obj a o q
  exact ⟨z, ob, e a ob (fun z => by rw [z, nI] at q; cases q) e', r⟩
noncomputable def WA (G : Md) (A : Around) (env : Env) (target : Expr) (v : AV) (Q : St → Prop) (σ : St) : Prop := ∀ u, abs u = v → WF G A env (assign target env u) (fun _ σ' => Q σ') σ
theorem wa_Name {x : Str} {v : AV} {Q : St → Prop} (eo : EnvOK env) (hx : Sto env x) {H : AH} {m : Str → Option AV} (h : Q ⟨H, put m x v⟩) : WA G A env (.Name x pos) v Q ⟨H, m⟩ := fun u eu s hs =>
  wpAny_assign_Name (store_m (Q := fun _ σ' => Q σ') eo hx (by rw [eu]; exact h) s hs)
/-- the raw state of a walk: an iterator beside the frame -/
structure Raw (G : Md) (env : Env) (I : Addr) (σ : St) : Prop where
  n : σ.H I = none
  o : ¬ own env I
  t : G.hT.get? I = none
/-- what a turn of a for must end in -/
noncomputable def turnQ (Inv : St → Prop) (Q : AFl → St → Prop) (f : AFl) (σ : St) : Prop := match f with
  | .next => Inv σ
  | .cont => Inv σ
  | .brk => Q .next σ
  | .ret v => Q (.ret v) σ
theorem for_core {target : Expr} {body : List Stmt} {I : Addr} {n : Nat} {It : Nat → Heap → Prop} {P : Nat → AV → Prop} {Ok : AH → Prop} {Q : AFl → St → Prop} {Inv : Nat → St → Prop} {s₀ s : Shared} {σ₀ : St}
    (itr : Itr G A I n It P Ok) (hs : FR G env σ₀ s₀.heap) (S : FStep G env σ₀ s₀.heap σ s.heap) (X : SS s₀ s) (nI : s₀.heap.get? I = none) (raw : Raw G env I σ) (hit : It 0 s.heap) (h0 : Inv 0 σ)
    (ok : ∀ i σ', i ≤ n → Inv i σ' → Ok σ'.H) (turn : ∀ i v σ', i < n → P i v → Inv i σ' → WA G A env target v (fun σ₂ => WS G A env body (turnQ (Inv (i + 1)) Q) σ₂) σ')
    (done : ∀ σ', Inv n σ' → Q .next σ') :
    codeAny (model G.prog G.w) A (.forLoop target (.ref I) body [] env) (fun r s' => match r with | .ok f => ∃ σ', FStep G env σ₀ s₀.heap σ' s'.heap ∧ SS s₀ s' ∧ Q (absF f) σ' | .error e => cameBackBy (model G.prog G.w) A env (fun _ _ => False) e s') s := by
  refine codeAny_forLoop_any (fun k s' => ∃ i σ', k = n + 1 - i ∧ i ≤ n ∧ It i s'.heap ∧ FStep G env σ₀ s₀.heap σ' s'.heap ∧ SS s₀ s' ∧ Inv i σ' ∧ Raw G env I σ') ?_ (n + 1) ⟨0, σ, rfl, Nat.zero_le _, hit, S, X, h0, raw⟩
  rintro k s' ⟨i, σ', rfl, hi, hit', S', X', hI, raw'⟩
  have rawS : ∀ {h' : Heap} {tk : Nat}, Heap.ExtBut I s'.heap h' → FStep G env σ₀ s₀.heap σ' h' := fun e =>
    ⟨FStep.raw S'.rel raw'.n raw'.o raw'.t e, fun b ob q n o => e b ob (fun z => by rw [z, nI] at q; cases q) (S'.frame b ob q n o), S'.fresh⟩
  by_cases hlt : i < n
  · refine itr.item i s' σ'.H _ _ hlt hit' S'.rel.hr (ok i σ' hi hI) fun v h₁ tk₁ hP hit₁ he₁ => ?_
    have S₁ := rawS (tk := tk₁) he₁
    have w := turn i (abs v) σ' hlt hP hI
    refine itr.own (i + 1) _ target v _ _ hit₁ ?_
    refine wpAny_mono (WF.go (s := { s' with heap := h₁, toks := tk₁ }) (σ := σ') S₁.rel (.refl S₁.rel) (.refl _) (w v rfl) (Goal := fun _ s₂ => ∃ σ₂, FStep G env σ' h₁ σ₂ s₂.heap ∧ SS { s' with heap := h₁, toks := tk₁ } s₂ ∧ WS G A env body (turnQ (Inv (i + 1)) Q) σ₂) fun _ s₂ σ₂ S₂ X₂ h₂ => ⟨σ₂, S₂, X₂, h₂⟩) (fun _ s₂ ⟨σ₂, S₂, X₂, h₂⟩ => ?_) fun _ _ e => e.elim
    refine wpAny_mono (WF.go (σ := σ') S₁.rel S₂ X₂ h₂ (Goal := fun f s₃ => ∃ σ₃, FStep G env σ' h₁ σ₃ s₃.heap ∧ SS { s' with heap := h₁, toks := tk₁ } s₃ ∧ turnQ (Inv (i + 1)) Q (absF f) σ₃) fun f s₃ σ₃ S₃ X₃ h₃ => ⟨σ₃, S₃, X₃, h₃⟩) (fun f s₃ ⟨σ₃, S₃, X₃, h₃⟩ => ?_) fun _ _ e => e.elim
    have back : FStep G env σ₀ s₀.heap σ₃ s₃.heap := S₁.trans S₃ hs
    have xx : SS s₀ s₃ := (X'.trans ⟨rfl, rfl, rfl⟩ : SS s₀ { s' with heap := h₁, toks := tk₁ }).trans X₃
    have again : Inv (i + 1) σ₃ → ∃ m, m < n + 1 - i ∧ ∃ i σ', m = n + 1 - i ∧ i ≤ n ∧ It i s₃.heap ∧ FStep G env σ₀ s₀.heap σ' s₃.heap ∧ SS s₀ s₃ ∧ Inv i σ' ∧ Raw G env I σ' := fun hI' => by
      obtain ⟨oI, eI⟩ := itr.at_ _ _ hit₁
      have stay := S₃.frame I oI eI raw'.n raw'.o
      refine ⟨n + 1 - (i + 1), by lia, i + 1, σ₃, rfl, hlt, itr.keep _ _ _ hit₁ fun o e => by rw [eI] at e; cases e; exact stay, back, xx, hI', ⟨?_, raw'.o, raw'.t⟩⟩
      cases q : σ₃.H I with
      | none => rfl
      | some o => rcases S₃.fresh I (by rw [q]; exact Option.some_ne_none _) with z | z
                  · exact absurd raw'.n z
                  · rw [eI] at z; cases z
    cases f with
    | next => exact again h₃
    | cont => exact again h₃
    | brk => exact ⟨σ₃, back, xx, h₃⟩
    | ret v => exact ⟨σ₃, back, xx, h₃⟩
  · obtain rfl : i = n := by lia
    exact itr.done s' σ'.H _ _ hit' S'.rel.hr (ok i σ' (Nat.le_refl _) hI) fun h₁ tk₁ he₁ => wpAny_execs_nil ⟨σ', rawS (tk := tk₁) he₁, X'.trans ⟨rfl, rfl, rfl⟩, done σ' hI⟩
end
end Mine
namespace Mine
section
variable {G : Md} {A : Around} {env : Env} {σ : St} {pos : Pos}
/-- a new raw object beside the frame -/
theorem FR.pushRaw {h : Heap} (R : FR G env σ h) (o : Obj) : FStep G env σ h σ (h.push o) ∧ Raw G env h.objs.size σ ∧ h.get? h.objs.size = none := by
  have k : ∀ b ob, h.get? b = some ob → (h.push o).get? b = some ob := fun b ob e => Heap.get?_push_of_some _ e
  have nn : h.get? h.objs.size = none := by
    cases q : h.get? h.objs.size with
    | none => rfl
    | some ob => exact absurd (Heap.lt_size q) (Nat.lt_irrefl _)
  refine ⟨⟨⟨R.hr.keeps k, R.lr.keeps fun b ob _ e => k b ob e, R.own⟩, fun b ob e _ _ => k b ob e, fun a e => .inl e⟩, ⟨?_, fun ob => ?_, ?_⟩, nn⟩
  · cases q : σ.H h.objs.size with
    | none => rfl
    | some ob => obtain ⟨_, ob', e', _⟩ := R.hr.obj _ _ q; rw [nn] at e'; cases e'
  · obtain ⟨ob', e'⟩ := R.there ob; rw [nn] at e'; cases e'
  · cases q : G.hT.get? h.objs.size with
    | none => rfl
    | some ob => have := R.hr.keep _ _ q; rw [nn] at this; cases this
theorem FStep.rawStep {h h' : Heap} {I : Addr} {σ₀ : St} {h₀ : Heap} (S : FStep G env σ₀ h₀ σ h) (r : Raw G env I σ) (nI : h₀.get? I = none) (e : Heap.ExtBut I h h') : FStep G env σ₀ h₀ σ h' :=
  ⟨FStep.raw S.rel r.n r.o r.t e, fun b ob q n o => e b ob (fun z => by rw [z, nI] at q; cases q) (S.frame b ob q n o), S.fresh⟩
/-- something to walk over -/
inductive Over (σ : St) (a : Addr) : Nat → (Nat → AV → Prop) → (AH → Prop) → Prop
  | list {xs : List AV} (h : σ.H a = some (.list xs)) : Over σ a xs.length (fun i v => xs[i]? = some v) (fun H => H a = some (.list xs))
  | rng {n : Nat} (h : σ.H a = some (.rng n)) (hn : n < 2 ^ 62) : Over σ a n (fun i v => v = .int i) (fun _ => True)
theorem small_range (n : Nat) (hn : n < 2 ^ 62) : Builtin.Range.small 0 n 1 = true ∧ Builtin.Range.rangeSize 0 n 1 = n := by
  have e : Builtin.Range.rangeSize 0 n 1 = n := by
    unfold Builtin.Range.rangeSize
    simp only [show (1 : Int) > 0 from by decide, if_true]
    split <;> (try simp) <;> lia
  refine ⟨?_, e⟩
  unfold Builtin.Range.small
  rw [e]
  unfold Builtin.Range.rangeFitsLong
  simp only [Bool.and_eq_true, Bool.or_eq_true, decide_eq_true_eq, show (1 : Int) > 0 from by decide, if_true]
  lia
/-- the iterator made -/
theorem over_iter {a : Addr} {n : Nat} {P : Nat → AV → Prop} {Ok : AH → Prop} {s : Shared} {Goal : Value → Shared → Prop} {E : Value → Shared → Prop} (hh : A.handled = none) (ov : Over σ a n P Ok) (R : FR G env σ s.heap)
    (k : ∀ I It s', Itr G A I n It P Ok → It 0 s'.heap → FStep G env σ s.heap σ s'.heap → SS s s' → Raw G env I σ → s.heap.get? I = none → Goal (.ref I) s') : wpAny (model G.prog G.w) A (pyIter (.ref a)) Goal E s := by
  cases ov with
  | list h =>
    obtain ⟨vs, m, e1, r1⟩ := R.hr.list h
    refine wpAny_pyIter_list e1.isList ?_
    obtain ⟨S, r, nn⟩ := R.pushRaw { cls := .type "list_iterator", data := .fields #[.ref a, .int 0 0] }
    exact k _ _ _ (itr_list hh _ a _ (Nat.ne_of_lt (Heap.lt_size e1))) ⟨_, Heap.get?_push_size _ rfl, rfl, rfl⟩ S ⟨rfl, rfl, rfl⟩ r nn
  | rng h hn =>
    obtain ⟨_, ob, e1, t, u, v, rfl⟩ := R.hr.obj _ _ h
    obtain ⟨sm, sz⟩ := small_range n hn
    refine wpAny_pyIter_range e1 sm ?_
    obtain ⟨S, r, nn⟩ := R.pushRaw { cls := .type "range_iterator", data := .fields #[rawInt 0, rawInt (Builtin.Range.rangeSize 0 n 1), rawInt 1] }
    refine k _ _ _ (itr_range hh _ n) ?_ S ⟨rfl, rfl, rfl⟩ r nn
    rw [sz]
    have : ((n : Int) - ((0 : Nat) : Int)) = n := by simp
    rw [this]
    exact Heap.get?_push_size _ rfl
noncomputable def FORL (G : Md) (A : Around) (env : Env) (target : Expr) (body : List Stmt) (Q : AFl → St → Prop) (xv : AV) (σ : St) : Prop :=
  ∃ a n P Ok, xv = .ref a ∧ Over σ a n P Ok ∧ ∃ Inv : Nat → St → Prop, Inv 0 σ ∧ (∀ i σ', i ≤ n → Inv i σ' → Ok σ'.H) ∧
    (∀ i v σ', i < n → P i v → Inv i σ' → WA G A env target v (fun σ₂ => WS G A env body (turnQ (Inv (i + 1)) Q) σ₂) σ') ∧ (∀ σ', Inv n σ' → Q .next σ')
theorem wx_For {target iter : Expr} {body : List Stmt} {Q : AFl → St → Prop} (hh : A.handled = none) (h : WE G A env iter (FORL G A env target body Q) σ) (hf : ∀ x, foldedSetIterable iter env x = pure x) (hE : PassesOwn (model G.prog G.w) A env (fun _ _ => False)) :
    WX G A env (.For target iter body [] pos) Q σ := fun s hs =>
  wpAny_For (WF.go0 hs h fun xv s₁ σ₁ S₁ X₁ ⟨a, n, P, Ok, ev, ov, Inv, i0, iok, turn, done⟩ => by
    rw [abs_ref ev]
    refine over_iter hh ov S₁.rel fun I It s' itr it0 S X r nn => ?_
    refine codeAny_mono (for_core (Q := Q) (Inv := Inv) itr S₁.rel S X nn r it0 i0 iok turn done) fun r s'' q => ?_
    cases r with
    | ok f => obtain ⟨σ', S', X', q⟩ := q; exact ⟨σ', S₁.trans S' hs, X₁.trans X', q⟩
    | error e => exact q) hf
/-! more targets -/
theorem wpAny_draw_list {it t : Addr} {items : Array Value} (hne : t ≠ it) : ∀ (n i : Nat) (s : Shared) {E : Value → Shared → Prop} (Q : List Value → Shared → Prop), s.heap.IsListIter it t i → s.heap.IsList t items → i + n ≤ items.size →
    (∀ h', h'.IsListIter it t (i + n) → Heap.SameBut it s.heap h' → Q ((items.toList.drop i).take n) { s with heap := h' }) → wpAny (model G.prog G.w) A (draw (.ref it) n) Q E s
  | 0, i, s, _, Q, hit, _, _, hQ => wpAny_pure (by simpa using hQ s.heap hit (Heap.SameBut.refl ..))
  | n + 1, i, s, _, Q, hit, ht, hle, hQ => by
    have hlt : i < items.size := by lia
    show wpAny _ _ (pyNext (.ref it) >>= _) Q _ s
    refine wpAny_bind (wpAny_pyNext_list_item hit ht (x := items[i]) (by simp [hlt]) fun h₁ hit₁ hs₁ => ?_)
    refine wpAny_bind (wpAny_holding (wpAny_draw_list hne n (i + 1) _ _ hit₁ (ht.extBut hs₁.extBut hne) (by lia) fun h₂ hit₂ hs₂ => wpAny_pure ?_))
    have hd : items.toList.drop i = items[i] :: items.toList.drop (i + 1) := by simp [List.drop_eq_getElem_cons, hlt]
    have := hQ h₂ (by rw [show i + (n + 1) = i + 1 + n by lia]; exact hit₂) (hs₁.trans hs₂)
    rw [hd, List.take_succ_cons] at this
    exact this
theorem unpack_list {s : Shared} {t : Addr} {items : Array Value} {E : Value → Shared → Prop} {Q : List Value → Shared → Prop} (hh : A.handled = none) (ht : s.heap.IsList t items)
    (hQ : ∀ h', Heap.ExtBut s.heap.objs.size s.heap h' → Q items.toList { s with heap := h' }) : wpAny (model G.prog G.w) A (unpackItems (.ref t) items.size none) Q E s := by
  have hlt : t ≠ s.heap.objs.size := by obtain ⟨o, ho, _⟩ := ht; exact Nat.ne_of_lt (Heap.lt_size ho)
  unfold unpackItems
  refine wpAny_bind ?_
  unfold notIterableAtAll
  refine wpAny_bind (wpAny_specialOf ht.typeIs F.slot_list_iter.lookup ?_)
  refine wpAny_pure ?_
  simp only [Bool.false_eq_true, if_false]
  refine wpAny_bind (wpAny_holding (wpAny_pyIter_list ht ?_))
  refine wpAny_bind (wpAny_holding (wpAny_draw_list hlt items.size 0 _ _ ⟨_, Heap.get?_push_size _ rfl, rfl, rfl⟩ (ht.push _) (by lia) fun h₁ hit₁ hs₁ => ?_))
  have hall : List.take items.size (List.drop 0 items.toList) = items.toList := by
    rw [List.drop_zero]; exact List.take_of_length_le (by simp)
  rw [hall, if_neg (by simp)]
  have ht₁ : h₁.IsList t items := (ht.push _).extBut hs₁.extBut hlt
  refine wpAny_bind (wpAny_holding (wpAny_pyNext_list_end hh hit₁ ht₁ (by simp) fun h₂ he₂ => ?_))
  simp only [Option.isSome_none, Bool.false_eq_true, if_false]
  exact wpAny_pure (hQ h₂ fun b o hb e => he₂ b o hb (hs₁.extBut b o hb (Heap.get?_push_of_some _ e)))
/-- several targets, in their order -/
noncomputable def WAs (G : Md) (A : Around) (env : Env) : List Expr → List AV → (St → Prop) → St → Prop
  | t :: ts, v :: vs, Q, σ => WA G A env t v (WAs G A env ts vs Q) σ
  | _, _, Q, σ => Q σ
/-- plain targets -/
noncomputable def Plain (env : Env) (elts : List Expr) : Prop := assignEach elts env = elts.map fun t => (false, assign t env)
theorem assigns_run {s₀ : Shared} {σ₀ : St} {Q : St → Prop} (hs : FR G env σ₀ s₀.heap) : ∀ (ts : List Expr) (us : List Value) (σ : St) (s : Shared), FStep G env σ₀ s₀.heap σ s.heap → SS s₀ s → ts.length = us.length → WAs G A env ts (us.map abs) Q σ →
    wpAny (model G.prog G.w) A (assignInOrder (ts.map fun t => assign t env) us) (fun _ s' => ∃ σ', FStep G env σ₀ s₀.heap σ' s'.heap ∧ SS s₀ s' ∧ Q σ') (fun _ _ => False) s
  | [], [], σ, s, S, X, _, h => wpAny_pure ⟨σ, S, X, h⟩
  | t :: ts, u :: us, σ, s, S, X, hl, h => wpAny_bind (wpAny_holding (WF.go hs S X (h u rfl) fun _ s₂ σ₂ S₂ X₂ h₂ => assigns_run hs ts us σ₂ s₂ S₂ X₂ (by simpa using hl) h₂))
  | [], _ :: _, _, _, _, _, hl, _ => by cases hl
  | _ :: _, [], _, _, _, _, hl, _ => by cases hl
theorem wa_run {elts : List Expr} {k : Nat} {u : Value} {items : Array Value} {Q : St → Prop} {s : Shared} (hs : FR G env σ s.heap) (hp : Plain env elts) (hn : elts.length = items.size)
    (un : ∀ (Q : List Value → Shared → Prop) (E : Value → Shared → Prop), (∀ h', Heap.ExtBut s.heap.objs.size s.heap h' → Q items.toList { s with heap := h' }) → wpAny (model G.prog G.w) A (unpackItems u items.size none) Q E s)
    (h : WAs G A env elts (items.toList.map abs) Q σ) : wpAny (model G.prog G.w) A (assign (.Tuple elts k pos) env u) (fun _ s' => ∃ σ', FStep G env σ s.heap σ' s'.heap ∧ SS s s' ∧ Q σ') (fun _ _ => False) s := by
  rw [show assign (.Tuple elts k pos) env u = (do standAt pos; unpack u (assignEach elts env)) from rfl]
  refine wpAny_bind (wpAny_standAt ?_)
  unfold unpack
  rw [hp]
  have e1 : (elts.map fun t => (false, assign t env)).length = items.size := by simpa using hn
  have e2 : (elts.map fun t => (false, assign t env)).findIdx? (·.1) = none := by
    rw [List.findIdx?_eq_none_iff]; simp
  rw [e1, e2]
  obtain ⟨_, r, nn⟩ := hs.pushRaw ({ cls := .none } : Obj)
  refine wpAny_bind (wpAny_holding (un _ _ fun h' he => ?_))
  have S : FStep G env σ s.heap σ h' := (FStep.refl hs).rawStep r nn he
  have := assigns_run (A := A) hs elts items.toList σ { s with heap := h' } S ⟨rfl, rfl, rfl⟩ (by simpa using hn) h
  have e3 : (elts.map fun t => (false, assign t env)).map (·.2) = elts.map fun t => assign t env := by rw [List.map_map]; rfl
  rw [e3]
  exact this
theorem wa_tup {elts : List Expr} {k : Nat} {a : Addr} {xs : List AV} {Q : St → Prop} {H : AH} {m : Str → Option AV} (hh : A.handled = none) (hp : Plain env elts) (hx : H a = some (.tup xs)) (hn : elts.length = xs.length) (h : WAs G A env elts xs Q ⟨H, m⟩) : WA G A env (.Tuple elts k pos) (.ref a) Q ⟨H, m⟩ := fun u eu s hs => by
  obtain ⟨vs, n, e1, r1⟩ := hs.hr.tup hx
  rw [abs_ref eu]
  exact wa_run hs hp (by rw [abs_size r1]; exact hn) (fun Q E hQ => wpAny_unpackItems_tuple hh ⟨_, e1, rfl, _, rfl⟩ hQ) (by rw [r1]; exact h)
theorem wa_list {elts : List Expr} {k : Nat} {a : Addr} {xs : List AV} {Q : St → Prop} {H : AH} {m : Str → Option AV} (hh : A.handled = none) (hp : Plain env elts) (hx : H a = some (.list xs)) (hn : elts.length = xs.length) (h : WAs G A env elts xs Q ⟨H, m⟩) : WA G A env (.Tuple elts k pos) (.ref a) Q ⟨H, m⟩ := fun u eu s hs => by
  obtain ⟨vs, n, e1, r1⟩ := hs.hr.list hx
  rw [abs_ref eu]
  exact wa_run hs hp (by rw [abs_size r1]; exact hn) (fun Q E hQ => unpack_list hh e1.isList hQ) (by rw [r1]; exact h)
noncomputable abbrev ktg (G : Md) (A : Around) (env : Env) (t : Expr) (Q : AFl → St → Prop) : AV → St → Prop := fun v σ => WA G A env t v (Q .next) σ
theorem wx_AssignT {elts : List Expr} {k : Nat} {tpos : Pos} {value : Expr} {Q : AFl → St → Prop} (h : WE G A env value (ktg G A env (.Tuple elts k tpos) Q) σ)
    (hs1 : swapsWithSole [.Tuple elts k tpos] value pos.line env = pure false) (hs2 : swappedStores [.Tuple elts k tpos] value env = pure none) : WX G A env (.Assign [.Tuple elts k tpos] value pos) Q σ := fun s hs =>
  Assign_Tuple (WF.go0 hs h fun v s₁ σ₁ S₁ X₁ h₁ => WF.go hs S₁ X₁ (h₁ v rfl) fun _ s₂ σ₂ S₂ X₂ h₂ => ⟨σ₂, S₂, X₂, h₂⟩) hs1 hs2
end
end Mine
namespace Mine
/-! what a comprehension closes over -/
noncomputable def clF (env : Env) (acc : List (Str × Addr)) (p : Str × NameKind) : List (Str × Addr) := if p.2 == .free then (p.1, (env.cells.lookup p.1).getD 0) :: acc else acc
theorem cl_run {env : Env} {scope : Scope} (h : ∀ x ∈ scope.names, x.2 = .free → (env.cells.lookup x.1).isSome = true) : closureFor scope env = pure (scope.names.foldl (clF env) []) := by
  unfold closureFor
  dsimp only
  generalize scope.names = names at h
  have go : ∀ (ns : List (Str × NameKind)) (acc : List (Str × Addr)), (∀ x ∈ ns, x.2 = .free → (env.cells.lookup x.1).isSome = true) →
      (forIn ns acc fun x r => (match x with | (name, kind) => if (kind == NameKind.free) = true then do let c ← cellOf env name; pure (ForInStep.yield ((name, c) :: r)) else pure (ForInStep.yield r) : Sem (ForInStep (List (Str × Addr))))) = pure (ns.foldl (clF env) acc) := by
    intro ns
    induction ns with
    | nil => intro acc _; rfl
    | cons p r ih =>
      intro acc hh
      obtain ⟨x, k⟩ := p
      rw [List.forIn_cons]
      by_cases q : k = .free
      · subst q
        have e := hh (x, .free) (.head _) rfl
        obtain ⟨c, ec⟩ := Option.isSome_iff_exists.mp e
        have e1 : cellOf env x = pure c := by unfold cellOf; dsimp only at ec; rw [ec]
        have e2 : clF env acc (x, .free) = (x, c) :: acc := by unfold clF; dsimp only at ec; rw [ec]; rfl
        rw [List.foldl_cons, e2, ← ih _ fun y hy => hh y (.tail _ hy)]
        simp [e1]
      · have e2 : clF env acc (x, k) = acc := by unfold clF; simp [q]
        rw [List.foldl_cons, e2, ← ih _ fun y hy => hh y (.tail _ hy)]
        simp [q]
  have := go names [] h
  simpa using this
theorem cl_look {env : Env} : ∀ (ns : List (Str × NameKind)) (acc : List (Str × Addr)), (∀ x ∈ ns, x.2 = .free → (env.cells.lookup x.1).isSome = true) →
    (∀ x c, acc.lookup x = some c → env.cells.lookup x = some c) → (∀ x c, (ns.foldl (clF env) acc).lookup x = some c → env.cells.lookup x = some c ∧ ((x, NameKind.free) ∈ ns ∨ (acc.lookup x).isSome = true)) ∧
    (∀ x, (acc.lookup x).isSome = true ∨ (x, NameKind.free) ∈ ns → ((ns.foldl (clF env) acc).lookup x).isSome = true)
  | [], acc, _, h => ⟨fun x c e => ⟨h x c e, .inr (by rw [show acc.lookup x = some c from e]; rfl)⟩, fun x e => e.elim id fun z => nomatch z⟩
  | (y, k) :: r, acc, hh, h => by
    rw [List.foldl_cons]
    have step : (∀ x c, (clF env acc (y, k)).lookup x = some c → env.cells.lookup x = some c) := fun x c e => by
      unfold clF at e
      split at e
      · rename_i q
        rw [List.lookup_cons] at e
        split at e
        · rename_i q'
          cases e
          rw [beq_iff_eq.mp q']
          obtain ⟨c, ec⟩ := Option.isSome_iff_exists.mp (hh (y, k) (.head _) (by simpa using q))
          dsimp only at ec ⊢
          rw [ec]; rfl
        · exact h x c e
      · exact h x c e
    obtain ⟨h1, h2⟩ := cl_look r (clF env acc (y, k)) (fun x hx => hh x (.tail _ hx)) step
    refine ⟨fun x c e => ⟨(h1 x c e).1, ?_⟩, fun x e => h2 x ?_⟩
    · rcases (h1 x c e).2 with q | q
      · exact .inl (.tail _ q)
      · unfold clF at q
        split at q
        · rename_i qk
          rw [List.lookup_cons] at q
          split at q
          · rename_i qx
            left
            have e1 : x = y := beq_iff_eq.mp qx
            have e2 : k = .free := by simpa using qk
            rw [e1, e2]; exact .head _
          · exact .inr q
        · exact .inr q
    rcases e with e | e
    · left
      unfold clF
      split
      · rw [List.lookup_cons]
        split
        · rfl
        · exact e
      · exact e
    · rcases List.mem_cons.mp e with e | e
      · left
        cases e
        unfold clF
        simp
      · exact .inr e
/-- the scope of a comprehension inside a def's scope -/
structure CS (osc sc : Scope) (caps : List Str) : Prop where
  kind : sc.kind = .function
  ncell : ∀ x ∈ sc.names, x.2 ≠ .cell
  loc : ∀ x ∈ sc.names, x.2 = .local → sc.names.lookup x.1 = some .local
  fr : ∀ x ∈ sc.names, x.2 = .free → osc.names.lookup x.1 = some .cell
  frc : ∀ x ∈ sc.names, x.2 = .free → x.1 ∈ caps
  cap : ∀ x ∈ caps, sc.names.lookup x = some .free ∧ osc.names.lookup x = some .cell ∧ (x == ("__debug__" : Str)) = false ∧ (x == ("__classdict__" : Str)) = false
theorem look_map {names : List (Str × NameKind)} {f : Str → NameKind → NameKind} {x : Str} : (names.map fun (n, k) => (n, f n k)).lookup x = (names.lookup x).map (f x) := by
  induction names with
  | nil => rfl
  | cons p r ih =>
    obtain ⟨n, k⟩ := p
    simp only [List.map_cons, List.lookup_cons]
    by_cases q : x = n
    · subst q; simp
    · have : (x == n) = false := by simpa using q
      rw [this]; exact ih
theorem relabel_kind {scope : Scope} {env cenv : Env} (e : cenv.scope = relabel scope env) (x : Str) : cenv.kindOf x = (scope.names.lookup x).map fun k => if (k == .free && env.scope.kind == .function && env.kindOf x == some .cell) then .cell else k := by
  have := look_map (names := scope.names) (x := x) (f := fun n k => if (k == .free && env.scope.kind == .function && env.kindOf n == some .cell) then .cell else k)
  rw [← this]
  show cenv.scope.names.lookup x = _
  rw [e]
  unfold relabel
  congr 1
  apply List.map_congr_left
  rintro ⟨n, k⟩ _
  dsimp only
  split <;> rfl
section
variable {G : Md} {A : Around} {env : Env} {σ : St} {pos : Pos}
theorem lookup_mem {x : Str} {k : NameKind} {names : List (Str × NameKind)} (h : names.lookup x = some k) : (x, k) ∈ names := mem_of_look h
theorem nn {a b : Nat} (h : a < b) : a ≠ b := Nat.ne_of_lt h
theorem nm {a b : Nat} (h : b < a) : a ≠ b := fun e => Nat.ne_of_lt h e.symm
/-- a step beside one raw object -/
structure FSI (G : Md) (env : Env) (I : Addr) (σ : St) (h : Heap) (σ' : St) (h' : Heap) : Prop where
  rel : FR G env σ' h'
  frame : ∀ b ob, b ≠ I → h.get? b = some ob → σ.H b = none → ¬ own env b → h'.get? b = some ob
  fresh : ∀ a, σ'.H a ≠ none → σ.H a ≠ none ∨ h.get? a = none
theorem FSI.then {I : Addr} {σ σ' σ'' : St} {h h' h'' : Heap} (S : FSI G env I σ h σ' h') (T : FStep G env σ' h' σ'' h'') (R : FR G env σ h) (there : ∃ o, h'.get? I = some o) : FSI G env I σ h σ'' h'' := by
  refine ⟨T.rel, fun b ob i e n o => T.frame b ob (S.frame b ob i e n o) ?_ o, fun a e => ?_⟩
  · cases q : σ'.H b with
    | none => rfl
    | some o' => rcases S.fresh b (by rw [q]; exact Option.some_ne_none o') with z | z
                 · exact absurd n z
                 · rw [e] at z; cases z
  · rcases T.fresh a e with z | z
    · exact S.fresh a z
    · cases q : σ.H a with
      | some o => exact .inl (Option.some_ne_none o)
      | none => right; cases q' : h.get? a with
        | none => rfl
        | some ob =>
          by_cases o : own env a
          · obtain ⟨ob', e'⟩ := S.rel.there o
            rw [e'] at z; cases z
          · by_cases i : a = I
            · subst i; obtain ⟨o', e'⟩ := there; rw [e'] at z; cases z
            · rw [S.frame a ob i q' q o] at z; cases z
/-- the loop of a comprehension -/
theorem comp_loop {elt : Expr} {gens : List Comprehension} {scope : Scope} {cpos : Pos} {dp : Nat} {ipos : Pos} {target : Expr} {acc : Value} {rest : Sem Unit} {I : Addr} {n : Nat} {It : Nat → Heap → Prop} {P : Nat → AV → Prop} {Ok : AH → Prop} {Inv : Nat → St → Prop} {s₀ s : Shared} {σ₀ : St}
    (hden : compTurn (.ListComp elt gens scope cpos) dp (.ref I) acc env = (standAt ipos >>= fun _ => pyNext (.ref I) >>= fun r => match r with
      | none => pure (.done .next)
      | some v => letOwnedTupleGo target (.ref I) v >>= fun _ => assign target env v >>= fun _ => rest >>= fun _ => again (.compLoop (.ListComp elt gens scope cpos) dp (.ref I) acc env)))
    (itr : Itr G A I n It P Ok) (hs : FR G env σ₀ s₀.heap) (S : FSI G env I σ₀ s₀.heap σ s.heap) (X : SS s₀ s) (raw : Raw G env I σ) (hit : It 0 s.heap) (h0 : Inv 0 σ)
    (ok : ∀ i σ', i ≤ n → Inv i σ' → Ok σ'.H) (turn : ∀ i v σ', i < n → P i v → Inv i σ' → WA G A env target v (fun σ₂ => WF G A env rest (fun _ σ₃ => Inv (i + 1) σ₃) σ₂) σ') :
    codeAny (model G.prog G.w) A (.compLoop (.ListComp elt gens scope cpos) dp (.ref I) acc env) (fun r s' => match r with | .ok _ => ∃ σ', FSI G env I σ₀ s₀.heap σ' s'.heap ∧ SS s₀ s' ∧ Inv n σ' | .error _ => False) s := by
  refine codeAny_loop' rfl (fun k s' => ∃ i σ', k = n + 1 - i ∧ i ≤ n ∧ It i s'.heap ∧ FSI G env I σ₀ s₀.heap σ' s'.heap ∧ SS s₀ s' ∧ Inv i σ' ∧ Raw G env I σ') ?_ (n + 1) ⟨0, σ, rfl, Nat.zero_le _, hit, S, X, h0, raw⟩
  rintro k s' ⟨i, σ', rfl, hi, hit', S', X', hI, raw'⟩
  have rawS : ∀ {h' : Heap}, Heap.ExtBut I s'.heap h' → FSI G env I σ₀ s₀.heap σ' h' := fun e =>
    ⟨FStep.raw S'.rel raw'.n raw'.o raw'.t e, fun b ob z q n o => e b ob z (S'.frame b ob z q n o), S'.fresh⟩
  have hU : A.under (Code.compLoop (.ListComp elt gens scope cpos) dp (.ref I) acc env) = A := rfl
  rw [hU]
  show wpAny _ _ ((compTurn (.ListComp elt gens scope cpos) dp (.ref I) acc env).onRaise (fun x => do noteFrame x env; theTreesLotGoes x)) _ _ s'
  refine wpAny_noted ?_
  rw [hden]
  refine wpAny_bind (wpAny_standAt (wpAny_bind ?_))
  by_cases hlt : i < n
  · refine itr.item i s' σ'.H _ _ hlt hit' S'.rel.hr (ok i σ' hi hI) fun v h₁ tk₁ hP hit₁ he₁ => ?_
    have S₁ := rawS he₁
    have w := turn i (abs v) σ' hlt hP hI
    refine wpAny_bind (itr.own (i + 1) _ target v _ _ hit₁ (wpAny_bind ?_))
    refine wpAny_mono (WF.go (s := { s' with heap := h₁, toks := tk₁ }) (σ := σ') S₁.rel (.refl S₁.rel) (.refl _) (w v rfl) (Goal := fun _ s₂ => ∃ σ₂, FStep G env σ' h₁ σ₂ s₂.heap ∧ SS { s' with heap := h₁, toks := tk₁ } s₂ ∧ WF G A env rest (fun _ σ₃ => Inv (i + 1) σ₃) σ₂) fun _ s₂ σ₂ S₂ X₂ h₂ => ⟨σ₂, S₂, X₂, h₂⟩) (fun _ s₂ ⟨σ₂, S₂, X₂, h₂⟩ => wpAny_bind ?_) fun _ _ e => e.elim
    refine wpAny_mono (WF.go (σ := σ') S₁.rel S₂ X₂ h₂ (Goal := fun f s₃ => ∃ σ₃, FStep G env σ' h₁ σ₃ s₃.heap ∧ SS { s' with heap := h₁, toks := tk₁ } s₃ ∧ Inv (i + 1) σ₃) fun f s₃ σ₃ S₃ X₃ h₃ => ⟨σ₃, S₃, X₃, h₃⟩) (fun f s₃ ⟨σ₃, S₃, X₃, h₃⟩ => ?_) fun _ _ e => e.elim
    have back : FSI G env I σ₀ s₀.heap σ₃ s₃.heap := S₁.then S₃ hs (itr.at_ _ _ hit₁)
    have xx : SS s₀ s₃ := (X'.trans ⟨rfl, rfl, rfl⟩ : SS s₀ { s' with heap := h₁, toks := tk₁ }).trans X₃
    obtain ⟨oI, eI⟩ := itr.at_ _ _ hit₁
    have stay := S₃.frame I oI eI raw'.n raw'.o
    refine wpAny_pure (.inl ⟨rfl, n + 1 - (i + 1), by lia, i + 1, σ₃, rfl, hlt, itr.keep _ _ _ hit₁ fun o e => by rw [eI] at e; cases e; exact stay, back, xx, h₃, ⟨?_, raw'.o, raw'.t⟩⟩)
    cases q : σ₃.H I with
    | none => rfl
    | some o => rcases S₃.fresh I (by rw [q]; exact Option.some_ne_none _) with z | z
                · exact absurd raw'.n z
                · rw [eI] at z; cases z
  · obtain rfl : i = n := by lia
    exact itr.done s' σ'.H _ _ hit' S'.rel.hr (ok i σ' (Nat.le_refl _) hI) fun h₁ tk₁ he₁ => wpAny_pure ⟨σ', rawS he₁, X'.trans ⟨rfl, rfl, rfl⟩, hI⟩
theorem compStart_any {elt : Expr} {gens : List Comprehension} {scope : Scope} {cpos : Pos} {dp : Nat} {t i : Expr} {f : List Expr} {it acc : Value} {R : Result → Shared → Prop} {s : Shared} (hc : gens[dp]? = some ⟨t, i, f, 0⟩)
    (h0 : codeAny (model G.prog G.w) A (.compLoop (.ListComp elt gens scope cpos) dp it acc env) R s)
    (h : wpAny (model G.prog G.w) A (pyIter it) (fun it' s' => it' = it ∧ codeAny (model G.prog G.w) A (.compLoop (.ListComp elt gens scope cpos) dp it acc env) R s') (fun _ _ => False) s) : codeAny (model G.prog G.w) A (.compStart (.ListComp elt gens scope cpos) dp it acc env) R s := by
  refine codeAny_of_tree ?_
  have hU : A.under (Code.compStart (.ListComp elt gens scope cpos) dp it acc env) = A := rfl
  rw [hU]
  show wpAny _ _ ((compStart (.ListComp elt gens scope cpos) dp it acc env).onRaise (fun x => do noteFrame x env; standAt theWindowsPlace)) _ _ s
  refine wpAny_notedAt ?_
  unfold compStart
  rw [show clausesOf (.ListComp elt gens scope cpos) = gens from rfl, hc]
  show wpAny _ _ (ask >>= _) _ _ s
  refine wpAny_bind (wpAny_askSetting (wpAny_ite ?_))
  split
  · first
      | exact wpAny_bind (wpAny_pure (wpAny_pure (And.intro rfl h0)))
      | exact wpAny_pure (And.intro rfl h0)
  · refine wpAny_bind (wpAny_rule ?_)
    show wpAny _ _ (standAt i.pos >>= _) _ _ s
    refine wpAny_bind (wpAny_standAt (wpAny_bind (wpAny_mono h (fun it' s' ⟨e', h'⟩ => ?_) fun _ _ x => x.elim)))
    subst e'
    exact wpAny_pure (And.intro rfl h')
theorem bindM_mem {bs : List (Str × AV)} {x : Str} {v : AV} (h : bindM bs x = some v) : (x, v) ∈ bs := by
  have go : ∀ (bs : List (Str × AV)) (m : Str → Option AV), bs.foldl (fun m p => put m p.1 p.2) m x = some v → (x, v) ∈ bs ∨ m x = some v := by
    intro bs
    induction bs with
    | nil => exact fun m e => .inr e
    | cons p r ih =>
      intro m e
      rcases ih _ e with q | q
      · exact .inl (.tail _ q)
      · rcases put_some q with ⟨rfl, rfl⟩ | ⟨_, q⟩
        · exact .inl (.head _)
        · exact .inr q
  rcases go bs _ h with q | q
  · exact q
  · cases q
/-- what a comprehension asks, its first iterable known -/
noncomputable def COMP (G : Md) (A : Around) (env : Env) (scope : Scope) (target : Expr) (cn : List Str) (restOf : Env → Addr → Sem Unit) (K : Addr → St → Prop) (xv : AV) (σ : St) : Prop :=
  ∃ a n P Ok, xv = .ref a ∧ Over σ a n P Ok ∧ ∃ caps : List (Str × AV), caps.map (·.1) = cn ∧ (∀ p ∈ caps, σ.m p.1 = some p.2) ∧
    ∀ D, σ.H D = none → ∃ Inv : Nat → St → Prop, Inv 0 ⟨upd σ.H D (.list []), bindM caps⟩ ∧ (∀ i σ', i ≤ n → Inv i σ' → Ok σ'.H) ∧ (∀ σ', Inv n σ' → ∀ p ∈ caps, σ'.m p.1 = some p.2) ∧
      (∀ cenv, EnvOK cenv → cenv.scope = relabel scope env → ∀ i v σ', i < n → P i v → Inv i σ' → WA G A cenv target v (fun σ₂ => WF G A cenv (restOf cenv D) (fun _ σ₃ => Inv (i + 1) σ₃) σ₂) σ') ∧
      (∀ σ', Inv n σ' → K D ⟨σ'.H, σ.m⟩)
theorem comp_run {elt target iter : Expr} {ifs : List Expr} {rest : List Comprehension} {scope : Scope} {cpos pos' : Pos} {first : Sem Value} {restOf : Env → Addr → Sem Unit} {use : Option (Value → Sem Unit)} {K : Addr → St → Prop} {Goal : Value → Shared → Prop} {s : Shared}
    {cn : List Str} (cs : CS env.scope scope cn) (hh : A.handled = none) (eo : EnvOK env) (hs : FR G env σ s.heap) (hf : ∀ x, foldedSetIterable iter env x = pure x)
    (hden : ∀ cenv I D, compTurn (.ListComp elt (⟨target, iter, ifs, 0⟩ :: rest) scope cpos) 0 (.ref I) (.ref D) cenv = (standAt iter.pos >>= fun _ => pyNext (.ref I) >>= fun r => match r with
      | none => pure (.done .next)
      | some v => letOwnedTupleGo target (.ref I) v >>= fun _ => assign target cenv v >>= fun _ => restOf cenv D >>= fun _ => again (.compLoop (.ListComp elt (⟨target, iter, ifs, 0⟩ :: rest) scope cpos) 0 (.ref I) (.ref D) cenv)))
    (h : WF G A env first (fun v σ' => COMP G A env scope target cn restOf K (abs v) σ') σ)
    (hn : use = none → ∀ D σ' s', FStep G env σ s.heap σ' s'.heap → SS s s' → K D σ' → Goal (.ref D) s')
    (hu : ∀ u, use = some u → ∀ D σ', K D σ' → WF G A env (u (.ref D)) (fun _ σ₂ => ∀ s', FStep G env σ s.heap σ₂ s'.heap → SS s s' → Goal .none s') σ') :
    wpAny (model G.prog G.w) A (comprehension (.ListComp elt (⟨target, iter, ifs, 0⟩ :: rest) scope cpos) scope env pos' (newList []) false first use) Goal (fun _ _ => False) s := by
  have hfree : ∀ x ∈ scope.names, x.2 = .free → (env.cells.lookup x.1).isSome = true := fun x hx hk => eo.cells x.1 (.inl (cs.fr x hx hk))
  obtain ⟨cl1, cl2⟩ := cl_look (env := env) scope.names [] hfree (fun _ _ e => nomatch e)
  generalize hcl : scope.names.foldl (clF env) [] = cl at cl1 cl2
  refine wpAny_comprehension_free rfl hf ((cl_run hfree).trans (congrArg _ hcl)) cs.kind cs.loc ?_
  refine WF.go0 hs h fun xv s₁ σ₁ S₁ X₁ ⟨a, n, P, Ok, ea, ov, caps, ecn, hcaps, hD⟩ => ?_
  rw [abs_ref ea]
  refine over_iter hh ov S₁.rel fun I It s₂ itr it0 S₂ X₂ rawI nI => ?_
  refine wpAny_newObj_type ?_
  obtain ⟨Inv, i0, iok, icap, turn, done⟩ := hD s₂.heap.objs.size (by
    cases q : σ₁.H s₂.heap.objs.size with
    | none => rfl
    | some o => obtain ⟨_, ob, e, _⟩ := S₂.rel.hr.obj _ _ q; exact absurd (Heap.lt_size e) (Nat.lt_irrefl _))
  obtain ⟨SD, nD⟩ := S₂.rel.hr.upd_push (o := .list []) (ob := { cls := .type "list", data := .seq ([] : List Value).toArray }) ⟨#[], 0, rfl, rfl⟩
  obtain ⟨D, hDa⟩ : ∃ D : Nat, s₂.heap.objs.size = D := ⟨_, rfl⟩
  rw [hDa] at i0 turn done SD nD
  rw [hDa]
  refine wpAny_newFunctionEnv cs.ncell (by intro y hy; simp at hy) (fun h₁ hns₁ hsb₁ => ?_) cs.kind
  dsimp only at hns₁ hsb₁ ⊢
  generalize hH2 : s₂.heap.push { cls := .type "list", dict := none, data := .seq ([] : List Value).toArray } = H2 at hns₁ hsb₁ SD ⊢
  have hC : H2.objs.size = D + 1 := by rw [← hH2, Heap.size_push, hDa]
  obtain ⟨C, hCa⟩ : ∃ C : Nat, H2.objs.size = C := ⟨_, rfl⟩
  rw [hCa] at hC hns₁ hsb₁ ⊢
  have lt2 : ∀ {b : Nat} {ob}, s₂.heap.get? b = some ob → b < D := fun e => hDa ▸ Heap.lt_size e
  have k2 : ∀ b ob, s₂.heap.get? b = some ob → h₁.get? b = some ob := fun b ob e => hsb₁.extBut b ob (nn (by have := lt2 e; lia)) (Heap.get?_push_of_some _ (hH2 ▸ Heap.get?_push_of_some _ e))
  have kH : ∀ b ob, H2.get? b = some ob → h₁.get? b = some ob := fun b ob e => hsb₁.extBut b ob (nn (by have : b < H2.objs.size := Heap.lt_size e; rw [hCa] at this; exact this)) (Heap.get?_push_of_some _ e)
  have no2 : ∀ b : Nat, D ≤ b → s₂.heap.get? b = none := fun b hb => by
    cases q : s₂.heap.get? b with
    | none => rfl
    | some ob => have := lt2 q; lia
  have ow2 : ∀ b : Nat, own env b → b < D := fun b ob => by obtain ⟨o, e⟩ := S₂.rel.there ob; exact lt2 e
  have nHC : σ₁.H C = none := by
    cases q : σ₁.H C with
    | none => rfl
    | some o => obtain ⟨_, ob, e, _⟩ := S₂.rel.hr.obj _ _ q; have := lt2 e; lia
  have nTC : G.hT.get? C = none := by
    cases q : G.hT.get? C with
    | none => rfl
    | some o => have := S₂.rel.hr.keep _ _ q; have := lt2 this; lia
  have nTD : G.hT.get? D = none := by
    cases q : G.hT.get? D with
    | none => rfl
    | some o => have := S₂.rel.hr.keep _ _ q; have := lt2 this; lia
  -- the comprehension's frame
  let cenv : Env := { newEnv scope C env.globals cl env.qual none .none (some env) 0 with scope := relabel scope env }
  have gl : cenv.globals = env.globals := rfl
  have cc : cenv.cells = cl := rfl
  have lc : cenv.locals = C := rfl
  have bl : cenv.builtins = env.builtins := rfl
  have sc : cenv.scope = relabel scope env := rfl
  have hkd := relabel_kind (scope := scope) (env := env) (cenv := cenv) sc
  have capk : ∀ x ∈ cn, cenv.kindOf x = some .cell := fun x hx => by
    obtain ⟨e1, e2, _⟩ := cs.cap x hx
    rw [hkd, e1]
    have e3 : env.kindOf x = some .cell := e2
    simp [e3, eo.kind]
  have kfree : ∀ x, cenv.kindOf x = some .cell ∨ cenv.kindOf x = some .free → (x, NameKind.free) ∈ scope.names := fun x e => by
    rw [hkd] at e
    cases q : scope.names.lookup x with
    | none => rw [q] at e; rcases e with e | e <;> cases e
    | some k =>
      have hm := mem_of_look q
      have hne := cs.ncell _ hm
      rw [q] at e
      simp only [Option.map_some, Option.some.injEq] at e
      cases k with
      | free => exact hm
      | cell => exact absurd rfl hne
      | _ => simp at e
  have eoc : EnvOK cenv := ⟨by rw [sc]; exact cs.kind, gl.trans eo.glob, bl.trans eo.blt, fun x kx => by rw [cc]; exact cl2 x (.inr (kfree x kx)),
    fun x y c e1 e2 => by rw [cc] at e1 e2; exact eo.apart x y c (cl1 x c e1).1 (cl1 y c e2).1, fun x e => by
      rw [cc, lc] at e
      have : C < D := ow2 C (.inr ⟨x, (cl1 x C e).1⟩)
      lia⟩
  have ownc : ∀ b, own cenv b → b = C ∨ own env b := fun b o => by
    rcases o with o | ⟨x, o⟩
    · exact .inl o
    · rw [cc] at o; exact .inr (.inr ⟨x, (cl1 x b o).1⟩)
  have mem_cn : ∀ {x v}, bindM caps x = some v → x ∈ cn ∧ σ₁.m x = some v := fun {x v} e => by
    have hm := bindM_mem e
    exact ⟨by rw [← ecn]; exact List.mem_map_of_mem hm, hcaps _ hm⟩
  have Rc : FR G cenv ⟨upd σ₁.H D (.list []), bindM caps⟩ h₁ := by
    refine ⟨SD.rel.keeps kH, ⟨⟨_, hns₁, fun x v kx hm => ?_⟩, fun x c e => ?_, fun x v hm => ?_⟩, fun b o => ?_⟩
    · have := capk x (mem_cn hm).1
      rw [kx] at this; cases this
    · rw [cc] at e
      obtain ⟨e1, _⟩ := cl1 x c e
      obtain ⟨ov', ⟨o, ho, r⟩, z⟩ := S₂.rel.lr.cl x c e1
      refine ⟨ov', ⟨o, k2 _ _ ho, r⟩, fun v kx hm => z v (.inl ?_) (mem_cn hm).2⟩
      exact (cs.cap x (mem_cn hm).1).2.1
    · obtain ⟨hx, _⟩ := mem_cn hm
      exact ⟨.inr (.inl (capk x hx)), (cs.cap x hx).2.2⟩
    · show upd σ₁.H D _ b = none ∧ _
      rcases ownc b o with rfl | o
      · rw [upd_ne _ _ (nm (by lia))]; exact ⟨nHC, nTC⟩
      · have := ow2 b o
        rw [upd_ne _ _ (nn (by lia))]; exact S₂.rel.own b o
  have rawc : Raw G cenv I ⟨upd σ₁.H D (.list []), bindM caps⟩ := by
    obtain ⟨oI, eI⟩ := itr.at_ _ _ it0
    have hI := lt2 eI
    refine ⟨?_, fun o => ?_, rawI.t⟩
    · show upd σ₁.H D _ I = none
      rw [upd_ne _ _ (nn (by lia))]; exact rawI.n
    · rcases ownc I o with rfl | o
      · lia
      · exact rawI.o o
  have itc : It 0 h₁ := itr.keep _ _ _ it0 fun o e => k2 _ _ e
  -- what the loop leaves
  have old1 : ∀ b, b ≠ I → σ₁.H b = none → ¬ own env b → s₂.heap.get? b = none → s₁.heap.get? b = none := fun b i n o e => by
    cases q : s₁.heap.get? b with
    | none => rfl
    | some ob => rw [S₂.frame b ob q n o] at e; cases e
  have back : ∀ (σ' : St) (s₅ : Shared), FSI G cenv I ⟨upd σ₁.H D (.list []), bindM caps⟩ h₁ σ' s₅.heap → (∀ p ∈ caps, σ'.m p.1 = some p.2) → FStep G env σ₁ s₁.heap ⟨σ'.H, σ₁.m⟩ s₅.heap ∧ Raw G env C ⟨σ'.H, σ₁.m⟩ ∧ s₁.heap.get? C = none ∧ (∃ m, s₅.heap.Ns C m) := by
    intro σ' s₅ S₅ hcap
    have keep : ∀ b ob, b ≠ I → s₂.heap.get? b = some ob → σ₁.H b = none → ¬ own cenv b → s₅.heap.get? b = some ob := fun b ob i e n o => S₅.frame b ob i (k2 b ob e) (by show upd σ₁.H D _ b = none; rw [upd_ne _ _ (nn (by have := lt2 e; lia))]; exact n) o
    have newH : ∀ b : Nat, σ'.H b ≠ none → b < D → σ₁.H b ≠ none ∨ s₂.heap.get? b = none := fun b q hb => by
      rcases S₅.fresh b q with z | z
      · left
        change upd σ₁.H D _ b ≠ none at z
        rw [upd_ne _ _ (nn (by lia))] at z; exact z
      · right
        cases q' : s₂.heap.get? b with
        | none => rfl
        | some ob => rw [k2 _ _ q'] at z; cases z
    have nlo : ¬ own cenv env.locals := fun o => by
      rcases o with o | ⟨x, o⟩
      · have := ow2 env.locals (.inl rfl); rw [o, lc] at this; lia
      · rw [cc] at o; exact eo.locals x (cl1 x _ o).1
    have ownH : ∀ b, own env b → σ'.H b = none := fun b o => by
      cases q : σ'.H b with
      | none => rfl
      | some ob =>
        rcases newH b (by rw [q]; exact Option.some_ne_none _) (ow2 b o) with z | z
        · exact absurd (S₂.rel.own b o).1 z
        · obtain ⟨ob', e'⟩ := S₂.rel.there o; rw [e'] at z; cases z
    have notI : ∀ b, own env b → b ≠ I := fun b o q => rawI.o (q ▸ o)
    have hCH : σ'.H C = none := (S₅.rel.own C (.inl rfl)).1
    have s1D : ∀ b : Nat, D ≤ b → s₁.heap.get? b = none := fun b hb => by
      cases q : s₁.heap.get? b with
      | none => rfl
      | some ob =>
        exfalso
        have hnb : σ₁.H b = none := by
          cases q' : σ₁.H b with
          | none => rfl
          | some o' => obtain ⟨_, ob', e', _⟩ := S₂.rel.hr.obj b o' q'; have := lt2 e'; lia
        by_cases o : own env b
        · have := ow2 b o; lia
        · have := lt2 (S₂.frame b ob q hnb o); lia
    refine ⟨⟨⟨S₅.rel.hr, ⟨?_, fun x c e => ?_, S₂.rel.lr.dom⟩, fun b o => ⟨ownH b o, (S₂.rel.own b o).2⟩⟩, fun b ob e n o => keep b ob (fun z => by rw [z, nI] at e; cases e) (S₂.frame b ob e n o) n fun o' => ?_, fun b q => ?_⟩, ⟨hCH, fun o => ?_, nTC⟩, s1D C (by lia), ?_⟩
    · obtain ⟨mm, ⟨o, es, ep, ho, r⟩, z⟩ := S₂.rel.lr.ns
      exact ⟨mm, ⟨o, es, ep, keep _ _ (notI _ (.inl rfl)) ho (S₂.rel.own _ (.inl rfl)).1 nlo, r⟩, z⟩
    · by_cases oc : own cenv c
      · have hx : cl.lookup x = some c := by
          rcases oc with oc | ⟨y, oc⟩
          · have := ow2 c (.inr ⟨x, e⟩); rw [oc, lc] at this; lia
          · rw [cc] at oc
            have := eo.apart y x c (cl1 y c oc).1 e
            rw [← this]; exact oc
        obtain ⟨ov', hv, z⟩ := S₅.rel.lr.cl x c (by rw [cc]; exact hx)
        refine ⟨ov', hv, fun v kx hm => ?_⟩
        have hfr := (cl1 x c hx).2.elim id fun q => by cases q
        have hcn : x ∈ cn := cs.frc _ hfr rfl
        rw [← ecn] at hcn
        obtain ⟨p, hp, rfl⟩ := List.mem_map.mp hcn
        have e2 := hcaps p hp
        rw [hm] at e2; cases e2
        exact z _ (.inl (capk _ (by rw [← ecn]; exact List.mem_map_of_mem hp))) (hcap p hp)
      · obtain ⟨ov', ⟨o, ho, r⟩, z⟩ := S₂.rel.lr.cl x c e
        exact ⟨ov', ⟨o, keep _ _ (notI _ (.inr ⟨x, e⟩)) ho (S₂.rel.own _ (.inr ⟨x, e⟩)).1 oc, r⟩, z⟩
    · rcases ownc b o' with q | o'
      · rw [q, s1D C (by lia)] at e; cases e
      · exact o o'
    · by_cases hb : (b : Nat) < D
      · rcases newH b q hb with z | z
        · exact .inl z
        · cases q1 : σ₁.H b with
          | some o' => exact .inl (Option.some_ne_none _)
          | none =>
            right
            refine old1 b (fun i => ?_) q1 (fun o => ?_) z
            · obtain ⟨oI, eI⟩ := itr.at_ _ _ it0
              rw [i, eI] at z; cases z
            · obtain ⟨ob', e'⟩ := S₂.rel.there o; rw [e'] at z; cases z
      · exact .inr (s1D b (Nat.le_of_not_lt hb))
    · have : C < D := ow2 C o
      lia
    · obtain ⟨mm, hn, _⟩ := S₅.rel.lr.ns
      exact ⟨mm, hn⟩
  have Xh : SS s { s₂ with heap := h₁ } := X₁.trans (X₂.trans ⟨rfl, rfl, rfl⟩)
  have loop := comp_loop (elt := elt) (gens := ⟨target, iter, ifs, 0⟩ :: rest) (scope := scope) (cpos := cpos) (dp := 0) (acc := .ref D) (Inv := Inv) (A := A) (s₀ := { s₂ with heap := h₁ }) (s := { s₂ with heap := h₁ }) (hden cenv I D) itr Rc ⟨Rc, fun _ _ _ e _ _ => e, fun _ e => .inl e⟩ (.refl _) rawc itc i0 iok (turn cenv eoc sc)
  have post : ∀ r s', (match r with | .ok _ => ∃ σ', FSI G cenv I ⟨upd σ₁.H D (.list []), bindM caps⟩ h₁ σ' s'.heap ∧ SS { s₂ with heap := h₁ } s' ∧ Inv n σ' | .error _ => False) → compPost (model G.prog G.w) A (fun _ _ => False) use Goal (.ref D) C r s' := by
    intro r s' q
    cases r with
    | error e => exact q.elim
    | ok f =>
      obtain ⟨σ', S₅, X₅, hI⟩ := q
      obtain ⟨F5, raw5, nC1, m5, hns5⟩ := back σ' s' S₅ (icap σ' hI)
      have hK := done σ' hI
      have FF := S₁.trans F5 hs
      have XX := Xh.trans X₅
      have nCs : ∀ {h' : Heap}, Heap.SameBut C s'.heap h' → FStep G env σ s.heap ⟨σ'.H, σ₁.m⟩ h' := fun sb => S₁.trans (F5.rawStep raw5 nC1 sb.extBut) hs
      cases use with
      | none => exact ⟨m5, hns5, fun h' sb => hn rfl D _ _ (nCs sb) (XX.trans ⟨rfl, rfl, rfl⟩) hK⟩
      | some u =>
        refine wpAny_mono (hu u rfl D _ hK s' F5.rel) (fun _ s₆ ⟨σ₆, S₆, X₆, h₆⟩ => ?_) fun _ _ e => e.elim
        have raw6 : Raw G env C σ₆ := by
          refine ⟨?_, raw5.o, raw5.t⟩
          cases q : σ₆.H C with
          | none => rfl
          | some ob => rcases S₆.fresh C (by rw [q]; exact Option.some_ne_none _) with z | z
                       · exact absurd raw5.n z
                       · obtain ⟨o, es, ep, ho, r⟩ := hns5; rw [ho] at z; cases z
        exact ⟨m5, hns5.at fun o e => S₆.frame C o e raw5.n raw5.o, fun h' sb => h₆ { s₆ with heap := h' } (FStep.trans S₁ ((FStep.trans F5 S₆ S₁.rel).rawStep raw6 nC1 sb.extBut) hs) (XX.trans (X₆.trans ⟨rfl, rfl, rfl⟩))⟩
  refine codeAny_mono ?_ post
  have full : codeAny (model G.prog G.w) A (.compStart (.ListComp elt (⟨target, iter, ifs, 0⟩ :: rest) scope cpos) 0 (.ref I) (.ref D) cenv) _ { s₂ with heap := h₁ } :=
    compStart_any rfl loop (itr.self 0 _ _ _ itc ⟨rfl, loop⟩)
  exact full
end
end Mine
namespace Mine
section
variable {G : Md} {A : Around} {env : Env} {σ : St} {pos : Pos}
/-- the item kept -/
noncomputable def APP (D : Addr) (Q : St → Prop) (v : AV) (σ : St) : Prop := ∃ xs, σ.H D = some (.list xs) ∧ xs.length < sizeLine ∧ Q ⟨upd σ.H D (.list (xs ++ [v])), σ.m⟩
noncomputable def rest1 (elt : Expr) (env : Env) (D : Addr) : Sem Unit := eval elt env >>= fun x => call (.builtin "list.append") [.ref D, x] >>= fun _ => pure ()
theorem call_append {D : Addr} {v : Value} {Q : St → Prop} (h : APP D Q (abs v) σ) : WF G A env (call (.builtin "list.append") [.ref D, v]) (fun _ σ' => Q σ') σ := fun s hs => by
  obtain ⟨xs, hD, hz, hQ⟩ := h
  obtain ⟨vs, n, e1, r1⟩ := hs.hr.list hD
  obtain ⟨H', S, X, q⟩ := hs.hr.list_upd (Q := fun _ H' => Q ⟨H', σ.m⟩) hD e1 (fun z => z.push v) (ys := xs ++ [abs v]) (by simp [r1]) (v := .none) hQ
  refine wpAny_call_entry slot_list_append e1.isList.typeIs entry_list_append ?_ (args_list_append _ _)
  show wpAny _ _ (updateSeq D (·.push v) >>= fun _ => ret .none) _ _ s
  refine wpAny_bind ?_
  have hz1 : vs.size ≤ sizeLine := by rw [abs_size r1]; lia
  exact wpAny_updateSeq e1 rfl (wpAny_pure ⟨.none, rfl, _, S.toF hs, X, q⟩) hz1 (by show (vs.push v).size ≤ _; rw [Array.size_push]; lia)
theorem rest1_ok {elt : Expr} {D : Addr} {Q : St → Prop} (h : WE G A env elt (APP D Q) σ) : WF G A env (rest1 elt env D) (fun _ σ' => Q σ') σ := WF.bind (WF.mono h fun v σ' q => WF.bind (WF.mono (call_append q) fun _ σ'' q' => WF.pure q'))
/-- a comprehension with one for -/
noncomputable def COMP1 (G : Md) (A : Around) (env : Env) (scope : Scope) (elt target : Expr) (cn : List Str) (K : Addr → St → Prop) (xv : AV) (σ : St) : Prop := COMP G A env scope target cn (rest1 elt) K xv σ
theorem we_ListComp {elt target iter : Expr} {scope : Scope} {Q : AV → St → Prop} {cn : List Str} (cs : CS env.scope scope cn) (hh : A.handled = none) (eo : EnvOK env) (hf : ∀ x, foldedSetIterable iter env x = pure x)
    (h : WE G A env iter (COMP1 G A env scope elt target cn (fun D σ' => Q (.ref D) σ')) σ) : WE G A env (.ListComp elt [⟨target, iter, [], 0⟩] scope pos) Q σ := fun s hs => by
  rw [eval_ListComp]
  exact comp_run (K := fun D σ' => Q (.ref D) σ') cs hh eo hs hf (fun cenv I D => compTurn_list1 ..) h (fun _ D σ' s' S X q => ⟨σ', S, X, q⟩) (fun u e => by cases e)
theorem swap_comp {elt target iter : Expr} {scope : Scope} {rest : List Comprehension} {x : Str} {pos' : Pos} {ifs : List Expr} {Q : AFl → St → Prop} {cn : List Str} {restOf : Env → Addr → Sem Unit} {cpos : Pos} (cs : CS env.scope scope cn) (hh : A.handled = none) (eo : EnvOK env) (hx : Sto env x) (hf : ∀ x, foldedSetIterable iter env x = pure x)
    (hsw : swapsWith (.ListComp elt (⟨target, iter, ifs, 0⟩ :: rest) scope cpos) (some (.Name x pos')) pos.line env = pure true)
    (hden : ∀ cenv I D, compTurn (.ListComp elt (⟨target, iter, ifs, 0⟩ :: rest) scope cpos) 0 (.ref I) (.ref D) cenv = (standAt iter.pos >>= fun _ => pyNext (.ref I) >>= fun r => match r with
      | none => pure (.done .next)
      | some v => letOwnedTupleGo target (.ref I) v >>= fun _ => assign target cenv v >>= fun _ => restOf cenv D >>= fun _ => again (.compLoop (.ListComp elt (⟨target, iter, ifs, 0⟩ :: rest) scope cpos) 0 (.ref I) (.ref D) cenv)))
    (h : WE G A env iter (COMP G A env scope target cn restOf (fun D σ' => Q .next ⟨σ'.H, put σ'.m x (.ref D)⟩)) σ) : WX G A env (.Assign [.Name x pos'] (.ListComp elt (⟨target, iter, ifs, 0⟩ :: rest) scope cpos) pos) Q σ := fun s hs => by
  rw [exec_Assign_Name_used _ _ _ _ hsw]
  refine wpAny_bind (wpAny_standAt (wpAny_bind ?_))
  show wpAny _ _ (comprehension _ scope env _ (newList []) false (firstIter _ env) (some (assign (.Name x pos') env)) >>= _) _ _ _
  refine wpAny_bind (comp_run (K := fun D σ' => Q .next ⟨σ'.H, put σ'.m x (.ref D)⟩) cs hh eo hs hf hden h (fun e => by cases e) fun u eu D σ' q => ?_)
  cases eu
  exact WF.mono (wa_Name (Q := fun σ₂ => Q .next σ₂) eo hx q (.ref D) rfl) fun _ σ₂ q₂ s' S X => wpAny_pure (wpAny_pure ⟨σ₂, S, X, q₂⟩)
theorem wx_AssignC {elt target iter : Expr} {scope : Scope} {x : Str} {pos' cpos : Pos} {Q : AFl → St → Prop} {cn : List Str} (cs : CS env.scope scope cn) (hh : A.handled = none) (eo : EnvOK env) (hx : Sto env x) (hf : ∀ x, foldedSetIterable iter env x = pure x)
    (hsw : swapsWith (.ListComp elt [⟨target, iter, [], 0⟩] scope cpos) (some (.Name x pos')) pos.line env = pure true)
    (h : WE G A env iter (COMP1 G A env scope elt target cn (fun D σ' => Q .next ⟨σ'.H, put σ'.m x (.ref D)⟩)) σ) : WX G A env (.Assign [.Name x pos'] (.ListComp elt [⟨target, iter, [], 0⟩] scope cpos) pos) Q σ :=
  swap_comp cs hh eo hx hf hsw (fun cenv I D => compTurn_list1 ..) h
/-! with one test -/
noncomputable def restIf (elt c : Expr) (env : Env) (D : Addr) : Sem Unit := isTrue c env (eval c env) >>= fun ok => if ok then rest1 elt env D else pure ()
theorem restIf_ok {elt c : Expr} {D : Addr} {Q : St → Prop} (h : WB G A env c (fun b σ₁ => if b then WE G A env elt (APP D Q) σ₁ else Q σ₁) σ) : WF G A env (restIf elt c env D) (fun _ σ' => Q σ') σ :=
  WF.bind (WF.mono h fun b σ' q => by
    cases b with
    | true => exact rest1_ok q
    | false => exact WF.pure q)
theorem turn_if (elt target iter c : Expr) (scope : Scope) (pos : Pos) (it acc : Value) (D : Addr) (env : Env) :
    compTurn (.ListComp elt [⟨target, iter, [c], 0⟩] scope pos) 0 it (.ref D) env = (standAt iter.pos >>= fun _ => pyNext it >>= fun r => match r with
      | none => pure (.done .next)
      | some v => letOwnedTupleGo target it v >>= fun _ => assign target env v >>= fun _ => restIf elt c env D >>= fun _ =>
          again (.compLoop (.ListComp elt [⟨target, iter, [c], 0⟩] scope pos) 0 it (.ref D) env)) := by
  have e : compTurn (.ListComp elt [⟨target, iter, [c], 0⟩] scope pos) 0 it (.ref D) env = (standAt iter.pos >>= fun _ => pyNext it >>= fun r => match r with
      | none => pure (.done .next)
      | some v => letOwnedTupleGo target it v >>= fun _ => assign target env v >>= fun _ => (forIn [c] true fun c r => if r = true then do let ok ← isTrue c env (eval c env); pure (ForInStep.yield ok) else pure (ForInStep.yield r)) >>= fun ok => if ok = true then (rest1 elt env D >>= fun _ => again (.compLoop (.ListComp elt [⟨target, iter, [c], 0⟩] scope pos) 0 it (.ref D) env)) else again (.compLoop (.ListComp elt [⟨target, iter, [c], 0⟩] scope pos) 0 it (.ref D) env)) := by rfl
  rw [e]
  congr 1
  funext _
  congr 1
  funext r
  cases r with
  | none => rfl
  | some v =>
    dsimp only
    congr 1
    funext _
    congr 1
    funext _
    unfold restIf
    simp only [List.forIn_cons, List.forIn_nil, if_true, bind_assoc, pure_bind]
    congr 1
    funext ok
    cases ok <;> simp
/-! with two fors -/
noncomputable def rest2 (e : Expr) (i2 : Expr) (env : Env) (D : Addr) : Sem Unit := eval i2 env >>= fun x => standAt i2.pos >>= fun _ => foldedSetIterable i2 env x >>= fun x => holding [x] (pyIter x) >>= fun it' => runOwn (.compStart e 1 it' (.ref D) env) env >>= fun _ => pure ()
theorem turn_two (elt target iter t2 i2 : Expr) (scope : Scope) (pos : Pos) (it : Value) (D : Addr) (env : Env) :
    compTurn (.ListComp elt [⟨target, iter, [], 0⟩, ⟨t2, i2, [], 0⟩] scope pos) 0 it (.ref D) env = (standAt iter.pos >>= fun _ => pyNext it >>= fun r => match r with
      | none => pure (.done .next)
      | some v => letOwnedTupleGo target it v >>= fun _ => assign target env v >>= fun _ => rest2 (.ListComp elt [⟨target, iter, [], 0⟩, ⟨t2, i2, [], 0⟩] scope pos) i2 env D >>= fun _ =>
          again (.compLoop (.ListComp elt [⟨target, iter, [], 0⟩, ⟨t2, i2, [], 0⟩] scope pos) 0 it (.ref D) env)) := by
  have e : compTurn (.ListComp elt [⟨target, iter, [], 0⟩, ⟨t2, i2, [], 0⟩] scope pos) 0 it (.ref D) env = (standAt iter.pos >>= fun _ => pyNext it >>= fun r => match r with
      | none => pure (.done .next)
      | some v => letOwnedTupleGo target it v >>= fun _ => assign target env v >>= fun _ => eval i2 env >>= fun x => standAt i2.pos >>= fun _ => foldedSetIterable i2 env x >>= fun x => holding [x] (pyIter x) >>= fun it' => runOwn (.compStart (.ListComp elt [⟨target, iter, [], 0⟩, ⟨t2, i2, [], 0⟩] scope pos) 1 it' (.ref D) env) env >>= fun _ =>
          again (.compLoop (.ListComp elt [⟨target, iter, [], 0⟩, ⟨t2, i2, [], 0⟩] scope pos) 0 it (.ref D) env)) := by rfl
  rw [e]
  unfold rest2
  simp only [bind_assoc, pure_bind]
theorem turn_in (elt target iter t2 i2 : Expr) (scope : Scope) (pos : Pos) (it : Value) (D : Addr) (env : Env) :
    compTurn (.ListComp elt [⟨target, iter, [], 0⟩, ⟨t2, i2, [], 0⟩] scope pos) 1 it (.ref D) env = (standAt i2.pos >>= fun _ => pyNext it >>= fun r => match r with
      | none => pure (.done .next)
      | some v => letOwnedTupleGo t2 it v >>= fun _ => assign t2 env v >>= fun _ => rest1 elt env D >>= fun _ =>
          again (.compLoop (.ListComp elt [⟨target, iter, [], 0⟩, ⟨t2, i2, [], 0⟩] scope pos) 1 it (.ref D) env)) := by rfl
noncomputable def INNER (G : Md) (A : Around) (env : Env) (D : Addr) (t2 elt : Expr) (Q : St → Prop) (xv : AV) (σ : St) : Prop :=
  ∃ a n P Ok, xv = .ref a ∧ Over σ a n P Ok ∧ ∃ Inv : Nat → St → Prop, Inv 0 σ ∧ (∀ i σ', i ≤ n → Inv i σ' → Ok σ'.H) ∧
    (∀ i v σ', i < n → P i v → Inv i σ' → WA G A env t2 v (fun σ₂ => WE G A env elt (APP D (Inv (i + 1))) σ₂) σ') ∧ (∀ σ', Inv n σ' → Q σ')
theorem rest2_ok {elt target iter t2 i2 : Expr} {scope : Scope} {cpos : Pos} {D : Addr} {Q : St → Prop} (hh : A.handled = none) (hf : ∀ x, foldedSetIterable i2 env x = pure x) (h : WE G A env i2 (INNER G A env D t2 elt Q) σ) :
    WF G A env (rest2 (.ListComp elt [⟨target, iter, [], 0⟩, ⟨t2, i2, [], 0⟩] scope cpos) i2 env D) (fun _ σ' => Q σ') σ := fun s hs => by
  unfold rest2
  refine wpAny_bind (WF.go0 hs h fun xv s₁ σ₁ S₁ X₁ ⟨a, n, P, Ok, ea, ov, Inv, i0, iok, turn, done⟩ => wpAny_bind (wpAny_standAt (wpAny_bind (wpAny_of_eq (hf _) (wpAny_bind (wpAny_holding ?_))))))
  rw [abs_ref ea]
  refine over_iter hh ov S₁.rel fun I It s₂ itr it0 S₂ X₂ rawI nI => wpAny_bind (wpAny_runOwn ?_)
  have loop := comp_loop (elt := elt) (gens := [⟨target, iter, [], 0⟩, ⟨t2, i2, [], 0⟩]) (scope := scope) (cpos := cpos) (dp := 1) (acc := .ref D) (Inv := Inv) (A := A) (s₀ := s₂) (s := s₂) (turn_in elt target iter t2 i2 scope cpos (.ref I) D env) itr S₂.rel ⟨S₂.rel, fun _ _ _ e _ _ => e, fun _ e => .inl e⟩ (.refl _) rawI it0 i0 iok
    (fun i v σ' hi hp hI u eu => WF.mono (turn i v σ' hi hp hI u eu) fun _ σ₂ q => rest1_ok q)
  have full : codeAny (model G.prog G.w) A (.compStart (.ListComp elt [⟨target, iter, [], 0⟩, ⟨t2, i2, [], 0⟩] scope cpos) 1 (.ref I) (.ref D) env) _ s₂ := compStart_any rfl loop (itr.self 0 _ _ _ it0 ⟨rfl, loop⟩)
  refine codeAny_mono full fun r s₅ q => ?_
  cases r with
  | error e => exact q.elim
  | ok f =>
    obtain ⟨σ', S₅, X₅, hI⟩ := q
    refine wpAny_pure ⟨σ', S₁.trans ⟨S₅.rel, fun b ob e n o => S₅.frame b ob (fun z => by rw [z, nI] at e; cases e) (S₂.frame b ob e n o) n o, fun b q => ?_⟩ hs, X₁.trans (X₂.trans X₅), done σ' hI⟩
    rcases S₅.fresh b q with z | z
    · exact .inl z
    · cases q1 : σ₁.H b with
      | some o' => exact .inl (Option.some_ne_none _)
      | none =>
        right
        cases q2 : s₁.heap.get? b with
        | none => rfl
        | some ob =>
          by_cases o : own env b
          · obtain ⟨ob', e'⟩ := S₂.rel.there o; rw [e'] at z; cases z
          · rw [S₂.frame b ob q2 q1 o] at z; cases z
theorem we_ListComp2 {elt target iter t2 i2 : Expr} {scope : Scope} {Q : AV → St → Prop} {cn : List Str} (cs : CS env.scope scope cn) (hh : A.handled = none) (eo : EnvOK env) (hf : ∀ x, foldedSetIterable iter env x = pure x)
    (h : WE G A env iter (COMP G A env scope target cn (rest2 (.ListComp elt [⟨target, iter, [], 0⟩, ⟨t2, i2, [], 0⟩] scope pos) i2) (fun D σ' => Q (.ref D) σ')) σ) : WE G A env (.ListComp elt [⟨target, iter, [], 0⟩, ⟨t2, i2, [], 0⟩] scope pos) Q σ := fun s hs => by
  rw [eval_ListComp]
  exact comp_run (K := fun D σ' => Q (.ref D) σ') cs hh eo hs hf (fun cenv I D => turn_two ..) h (fun _ D σ' s' S X q => ⟨σ', S, X, q⟩) (fun u e => by cases e)
theorem wx_AssignC2 {elt target iter t2 i2 : Expr} {scope : Scope} {x : Str} {pos' cpos : Pos} {Q : AFl → St → Prop} {cn : List Str} (cs : CS env.scope scope cn) (hh : A.handled = none) (eo : EnvOK env) (hx : Sto env x) (hf : ∀ x, foldedSetIterable iter env x = pure x)
    (hsw : swapsWith (.ListComp elt [⟨target, iter, [], 0⟩, ⟨t2, i2, [], 0⟩] scope cpos) (some (.Name x pos')) pos.line env = pure true)
    (h : WE G A env iter (COMP G A env scope target cn (rest2 (.ListComp elt [⟨target, iter, [], 0⟩, ⟨t2, i2, [], 0⟩] scope cpos) i2) (fun D σ' => Q .next ⟨σ'.H, put σ'.m x (.ref D)⟩)) σ) : WX G A env (.Assign [.Name x pos'] (.ListComp elt [⟨target, iter, [], 0⟩, ⟨t2, i2, [], 0⟩] scope cpos) pos) Q σ :=
  swap_comp cs hh eo hx hf hsw (fun cenv I D => turn_two ..) h
end
end Mine
namespace Mine
theorem toList_inj {a b : List Char} (h : a.map Char.toNat = b.map Char.toNat) : a = b := by
  induction a generalizing b with
  | nil => cases b <;> simp_all
  | cons x a ih => cases b with
    | nil => simp at h
    | cons y b =>
      simp only [List.map_cons, List.cons.injEq] at h
      rw [ih h.2, Char.toNat_inj.mp h.1]
theorem ofString_inj {a b : String} (h : Str.ofString a = Str.ofString b) : a = b := by
  rw [Str.ofString_eq_toList, Str.ofString_eq_toList] at h
  injection h with h
  have := congrArg Array.toList h
  simp only at this
  exact String.toList_inj.mp (toList_inj this)
theorem ofS_eq (a b : String) : (Str.ofString a = Str.ofString b) = (a = b) := propext ⟨ofString_inj, fun h => by rw [h]⟩
theorem ofS_beq (a b : String) : (Str.ofString a == Str.ofString b) = decide (a = b) := by
  rw [Bool.eq_iff_iff, beq_iff_eq, decide_eq_true_eq]; exact ⟨ofString_inj, fun h => by rw [h]⟩
theorem sne {a b : String} (h : ¬ a = b) : Str.ofString a ≠ Str.ofString b := fun e => h (ofString_inj e)
theorem HStep.kept {G : Md} {H : AH} {h h' : Heap} (R : HR G H h) (k : ∀ b o, h.get? b = some o → h'.get? b = some o) : HStep G H h H h' := ⟨R.keeps k, fun b o e _ => k b o e, fun _ e => .inl e⟩
/-! equality of flat values -/
noncomputable def flat : AV → Bool
  | .none | .bool _ | .int _ | .str _ => true
  | _ => false
noncomputable def feq : AV → AV → Bool
  | .none, .none => true
  | .bool a, .bool b => a == b
  | .int a, .int b => a == b
  | .str a, .str b => a == b
  | .bool a, .int b => (if a then 1 else 0) == b
  | .int a, .bool b => a == (if b then 1 else 0)
  | _, _ => false
theorem feq_self {a : AV} (h : flat a = true) : feq a a = true := by cases a <;> first | rfl | exact beq_self_eq_true _ | cases h
theorem flat_cases {v : Value} (h : flat (abs v) = true) : v = .none ∨ (∃ b, v = .bool b) ∨ (∃ i t, v = .int i t) ∨ ∃ x t, v = .str x t := by
  cases v with
  | none => exact .inl rfl
  | bool b => exact .inr (.inl ⟨b, rfl⟩)
  | int i t => exact .inr (.inr (.inl ⟨i, t, rfl⟩))
  | str x t => exact .inr (.inr (.inr ⟨x, t, rfl⟩))
  | _ => cases h
theorem eqF {A : Around} {s : Shared} {v u : Value} {a b : AV} (ea : abs v = a) (eb : abs u = b) (fa : flat a = true) (fb : flat b = true) : SeqAt.EqAt A s v u (feq a b) := by
  subst ea; subst eb
  rcases flat_cases fa with rfl | ⟨a, rfl⟩ | ⟨a, t, rfl⟩ | ⟨a, t, rfl⟩ <;> rcases flat_cases fb with rfl | ⟨b, rfl⟩ | ⟨b, t', rfl⟩ | ⟨b, t', rfl⟩
  · exact SeqAt.EqAt.same _
  · exact SeqAt.EqAt.none_bool _
  · exact SeqAt.EqAt.none_int _ _
  · exact SeqAt.EqAt.none_str _ _
  · exact SeqAt.EqAt.bool_none _
  · exact SeqAt.EqAt.bool_bool _ _
  · exact SeqAt.EqAt.bool_int _ _ _
  · exact SeqAt.EqAt.bool_str _ _ _
  · exact SeqAt.EqAt.int_none _ _
  · exact SeqAt.EqAt.int_bool _ _ _
  · exact SeqAt.EqAt.int_int _ _ _ _
  · exact SeqAt.EqAt.int_str _ _ _ _
  · exact SeqAt.EqAt.str_none _ _
  · exact SeqAt.EqAt.str_bool _ _ _
  · exact SeqAt.EqAt.str_int _ _ _ _
  · exact SeqAt.EqAt.str_str _ _ _ _
section
variable {G : Md} {A : Around} {H : AH} {Q : AV → AH → Prop}
theorem any_abs {vs : Array Value} {xs : List AV} (r : vs.toList.map abs = xs) (f : AV → Bool) : vs.any (fun y => f (abs y)) = xs.any f := by
  subst r; rw [List.any_map, ← Array.any_toList]; rfl
theorem mem_abs {vs : Array Value} {xs : List AV} (r : vs.toList.map abs = xs) {y : Value} (h : y ∈ vs) : abs y ∈ xs := by
  subst r; exact List.mem_map_of_mem (Array.mem_toList_iff.mpr h)
theorem c_inT_h {a : AV} {l : Addr} {xs : List AV} (hl : H l = some (.tup xs)) (fa : flat a = true) (fx : ∀ x ∈ xs, flat x = true) (h : Q (.bool (xs.any fun y => feq y a)) H) : AT2 G A (compareOp .In) a (.ref l) Q H := fun v u ev eu s hs => by
  obtain ⟨vs, n, e1, r1⟩ := hs.tup hl
  rw [abs_ref eu]
  exact SeqAt.in_tupleAt (fun y => feq (abs y) a) ⟨_, e1, rfl, _, rfl⟩ (fun y hy => eqF rfl ev (fx _ (mem_abs r1 hy)) fa) (tok0 (Q := Q) hs (by rw [any_abs r1 fun y => feq y a]; exact h))
theorem c_inL_h {a : AV} {l : Addr} {xs : List AV} (hl : H l = some (.list xs)) (fa : flat a = true) (fx : ∀ x ∈ xs, flat x = true) (h : Q (.bool (xs.any fun y => feq y a)) H) : AT2 G A (compareOp .In) a (.ref l) Q H := fun v u ev eu s hs => by
  obtain ⟨vs, n, e1, r1⟩ := hs.list hl
  rw [abs_ref eu]
  exact SeqAt.in_listAt (fun y => feq (abs y) a) e1.isList (fun y hy => eqF rfl ev (fx _ (mem_abs r1 hy)) fa) (tok0 (Q := Q) hs (by rw [any_abs r1 fun y => feq y a]; exact h))
theorem c_ninL_h {a : AV} {l : Addr} {xs : List AV} (hl : H l = some (.list xs)) (fa : flat a = true) (fx : ∀ x ∈ xs, flat x = true) (h : Q (.bool (!xs.any fun y => feq y a)) H) : AT2 G A (compareOp .NotIn) a (.ref l) Q H := fun v u ev eu s hs => by
  obtain ⟨vs, n, e1, r1⟩ := hs.list hl
  rw [abs_ref eu]
  exact SeqAt.notIn_listAt (fun y => feq (abs y) a) e1.isList (fun y hy => eqF rfl ev (fx _ (mem_abs r1 hy)) fa) (tok0 (Q := Q) hs (by rw [any_abs r1 fun y => feq y a]; exact h))
theorem c_eqL_same_h {l b : Addr} {xs : List AV} (hl : H l = some (.list xs)) (hb : H b = some (.list xs)) (fx : ∀ x ∈ xs, flat x = true) (hu : A.units < cLine) (h : Q (.bool true) H) : AT2 G A (compareOp .Eq) (.ref l) (.ref b) Q H := fun v u ev eu s hs => by
  obtain ⟨vs, n, e1, r1⟩ := hs.list hl
  obtain ⟨us, m, e2, r2⟩ := hs.list hb
  rw [abs_ref ev, abs_ref eu]
  refine SeqAt.eq_listAt (e := fun _ => true) e1.isList e2.isList (by rw [abs_size r1, abs_size r2]) hu (fun j h1 h2 => ?_) (tok0 (Q := Q) hs (by rw [show ((List.range vs.size).all fun _ => true) = true from List.all_eq_true.mpr fun _ _ => rfl]; exact h))
  have q1 : (vs.toList.map abs)[j]? = some (abs vs[j]) := by simp [h1]
  have q2 : (us.toList.map abs)[j]? = some (abs us[j]) := by simp [h2]
  rw [r1] at q1; rw [r2, q1] at q2
  have e : abs us[j] = abs vs[j] := by injection q2 with q2; exact q2.symm
  have fv := fx _ (List.mem_of_getElem? q1)
  have := eqF (A := A.in1) (s := s) (v := vs[j]) (u := us[j]) rfl e fv fv
  rw [feq_self fv] at this
  exact this
theorem c_eqL_len_h {l b : Addr} {xs ys : List AV} (hl : H l = some (.list xs)) (hb : H b = some (.list ys)) (hn : xs.length ≠ ys.length) (hu : A.units < cLine) (h : Q (.bool false) H) : AT2 G A (compareOp .Eq) (.ref l) (.ref b) Q H := fun v u ev eu s hs => by
  obtain ⟨vs, n, e1, r1⟩ := hs.list hl
  obtain ⟨us, m, e2, r2⟩ := hs.list hb
  rw [abs_ref ev, abs_ref eu]
  exact SeqAt.eq_list_lengthsAt e1.isList e2.isList (by rw [abs_size r1, abs_size r2]; simpa using hn) hu (tok0 (Q := Q) hs h)
/-- against the empty list -/
theorem c_eqL_nil_h {l b : Addr} {xs : List AV} (hl : H l = some (.list xs)) (hb : H b = some (.list [])) (hu : A.units < cLine) (h : Q (.bool (decide (xs = []))) H) : AT2 G A (compareOp .Eq) (.ref l) (.ref b) Q H := by
  cases xs with
  | nil => exact c_eqL_same_h hl hb (fun _ q => nomatch q) hu (by simpa using h)
  | cons x r => exact c_eqL_len_h hl hb (by simp) hu (by simpa using h)
/-! lists and tuples of ints -/
theorem reads_ints {h : Heap} : ∀ {vs : List Value} {is : List Int}, vs.map abs = is.map AV.int → ReadsAll h vs (is.map PyData.int) []
  | [], [], _ => .nil
  | v :: vs, i :: is, e => by
    simp only [List.map_cons, List.cons.injEq] at e
    obtain ⟨t, rfl⟩ := abs_int e.1
    exact .cons (as := []) (bs := []) (.int i t) (reads_ints e.2)
  | [], _ :: _, e => by cases e
  | _ :: _, [], e => by cases e
theorem c_neL_ints_h {l b : Addr} {is js : List Int} (hl : H l = some (.list (is.map .int))) (hb : H b = some (.list (js.map .int))) (hu : A.units + 64 < cLine) (h : Q (.bool (!decide (is = js))) H) : AT2 G A (compareOp .NotEq) (.ref l) (.ref b) Q H := fun v u ev eu s hs => by
  obtain ⟨vs, n, e1, r1⟩ := hs.list hl
  obtain ⟨us, m, e2, r2⟩ := hs.list hb
  rw [abs_ref ev, abs_ref eu]
  have d : ∀ ks : List Int, PyData.eqvAll (ks.map .int) (js.map .int) = decide (ks = js) := by
    clear h hb hl r1 r2 e1 e2
    induction js with
    | nil => intro ks; cases ks <;> simp [PyData.eqvAll]
    | cons j js ih =>
      intro ks
      cases ks with
      | nil => simp [PyData.eqvAll]
      | cons k ks =>
        simp only [List.map_cons, PyData.eqvAll, PyData.eqv, ih ks]
        by_cases q1 : k = j <;> by_cases q2 : ks = js <;> simp [q1, q2]
  refine SeqAt.compareNe_reads (.list e1 rfl rfl (reads_ints r1)) (.list e2 rfl rfl (reads_ints r2)) (ke_canLayAll0 _) (ke_canLayAll0 _) ?_ (tok0 (Q := Q) hs ?_)
  · have : (PyData.list (is.map PyData.int)).depth ≤ 1 := by simp [PyData.depth, ke_depthAll]
    lia
  · rw [PyData.eqv, d]; exact h
theorem c_eqT_ints_h {l b : Addr} {is : List Int} (hl : H l = some (.tup (is.map .int))) (hb : H b = some (.tup (is.map .int))) (hu : A.units + 64 < cLine) (h : Q (.bool true) H) : AT2 G A (compareOp .Eq) (.ref l) (.ref b) Q H := fun v u ev eu s hs => by
  obtain ⟨vs, n, e1, r1⟩ := hs.tup hl
  obtain ⟨us, m, e2, r2⟩ := hs.tup hb
  rw [abs_ref ev, abs_ref eu]
  refine SeqAt.compareEq_reads (.tuple e1 rfl rfl (reads_ints r1)) (.tuple e2 rfl rfl (reads_ints r2)) (ke_canLayAll0 _) (ke_canLayAll0 _) ?_ (tok0 (Q := Q) hs ?_)
  · have : (PyData.tuple (is.map PyData.int)).depth ≤ 1 := by simp [PyData.depth, ke_depthAll]
    lia
  · rw [SeqAt.eqv_refl (.tuple (is.map .int)) (ke_canLayAll0 _)]; exact h
theorem c_eqn_h (h : Q (.bool true) H) : AT2 G A (compareOp .Eq) .none .none Q H := fun v u ev eu s hs => by
  rw [abs_none ev, abs_none eu]; exact EqNone.eq_none_none (tok0 hs h)
/-! the built-in calls -/
theorem us1 {us : List Value} {a : AV} (e : us.map abs = [a]) : ∃ u, us = [u] ∧ abs u = a := by
  match us with
  | [u] => exact ⟨u, rfl, (List.cons.inj e).1⟩
  | [] => cases e
  | _ :: _ :: _ => simp at e
theorem us2 {us : List Value} {a b : AV} (e : us.map abs = [a, b]) : ∃ u w, us = [u, w] ∧ abs u = a ∧ abs w = b := by
  match us with
  | [u, w] => exact ⟨u, w, rfl, (List.cons.inj e).1, (List.cons.inj (List.cons.inj e).2).1⟩
  | [] => cases e
  | [_] => simp at e
  | _ :: _ :: _ :: _ => simp at e
theorem cv_len {l : Addr} {xs : List AV} (hl : H l = some (.list xs)) (hz : xs.length < 2 ^ 62) (h : Q (.int xs.length) H) : CV G A (.builtin "len") [.ref l] Q H := fun us eu s hs => by
  obtain ⟨vs, n, e1, r1⟩ := hs.list hl
  obtain ⟨u, rfl, eu'⟩ := us1 eu
  · rw [abs_ref eu']
    exact Calls.call_len_list e1.isList (by rw [abs_size r1]; lia) (tok1 (Q := Q) hs (by show Q (.int (vs.size : Nat)) H; rw [abs_size r1]; exact h))
theorem cv_len_str {x : Str} (hz : x.length < 2 ^ 62) (h : Q (.int x.length) H) : CV G A (.builtin "len") [.str x] Q H := fun us eu s hs => by
  obtain ⟨u, rfl, eu'⟩ := us1 eu
  · obtain ⟨t, rfl⟩ := abs_str eu'
    exact PyProof.Rows.len_str (by lia) (tok1 (Q := Q) hs h)
theorem cv_list {l : Addr} {xs : List AV} (hl : H l = some (.list xs)) (hz : xs.length ≤ sizeLine) (h : ∀ a, H a = none → Q (.ref a) (upd H a (.list xs))) : CV G A (.type "list") [.ref l] Q H := fun us eu s hs => by
  obtain ⟨vs, n, e1, r1⟩ := hs.list hl
  obtain ⟨u, rfl, eu'⟩ := us1 eu
  · rw [abs_ref eu']
    refine call_list_seq l (.inl rfl) e1 rfl rfl (fun h' c' k e => ?_) (by rw [abs_size r1]; exact hz)
    obtain ⟨S, nn⟩ := hs.upd_push (o := .list xs) (ob := { cls := .type "list", data := .seq vs }) ⟨vs, 0, rfl, r1⟩
    refine ⟨upd H s.heap.objs.size (.list xs), ⟨⟨S.rel.mods, fun b o q => k b o (hs.keep b o q), fun a o q => ?_⟩, fun b ob q _ => k b ob q, S.fresh⟩, ⟨rfl, rfl, rfl⟩, h _ nn⟩
    by_cases z : a = s.heap.objs.size
    · subst z; rw [upd_same] at q; cases q
      exact ⟨(S.rel.obj _ _ (upd_same ..)).1, _, e, vs, c', rfl, r1⟩
    · rw [upd_ne _ _ z] at q
      obtain ⟨z0, ob, q', r⟩ := hs.obj a o q
      exact ⟨z0, ob, k _ _ q', r⟩
theorem cv_range {n : Nat} (h : ∀ a, H a = none → Q (.ref a) (upd H a (.rng n))) : CV G A (.type "range") [.int n] Q H := fun us eu s hs => by
  obtain ⟨u, rfl, eu'⟩ := us1 eu
  · obtain ⟨t, rfl⟩ := abs_int eu'
    obtain ⟨S, nn⟩ := hs.upd_push (o := .rng n) (ob := { cls := .type "range", data := .fields #[.int 0 s.toks, .int n t, .int 1 (s.toks + 1)] }) ⟨_, _, _, rfl⟩
    exact call_range_1 ⟨_, S, ⟨rfl, rfl, rfl⟩, h _ nn⟩
theorem cv_str {i : Int} (hi : i.natAbs.log2 < 1920) (h : Q (.str (Str.ofString (toString i))) H) : CV G A (.type "str") [.int i] Q H := fun us eu s hs => by
  obtain ⟨u, rfl, eu'⟩ := us1 eu
  · obtain ⟨t, rfl⟩ := abs_int eu'
    exact P.str_of_int hi (tok1 (Q := Q) hs h)
theorem cv_abs {i : Int} (h : Q (.int (if i < 0 then -i else i)) H) : CV G A (.builtin "abs") [.int i] Q H := fun us eu s hs => by
  obtain ⟨u, rfl, eu'⟩ := us1 eu
  · obtain ⟨t, rfl⟩ := abs_int eu'
    exact call_abs_int fun u tk => tok1 (Q := Q) hs h
theorem cv_max2 {i j : Int} (hh : A.handled = none) (h : Q (.int (max i j)) H) : CV G A (.builtin "max") [.int i, .int j] Q H := fun us eu s hs => by
  obtain ⟨u, w, rfl, e1, e2⟩ := us2 eu
  · obtain ⟨t, rfl⟩ := abs_int e1
    obtain ⟨t', rfl⟩ := abs_int e2
    refine max_two_ints hh fun h' tk k => ⟨H, .kept hs k, ⟨rfl, rfl, rfl⟩, ?_⟩
    have : abs (if j > i then Value.int j t' else .int i t) = .int (max i j) := by
      split
      · rw [Int.max_eq_right (by lia)]; rfl
      · rw [Int.max_eq_left (by lia)]; rfl
    show Q (abs _) H
    rw [this]; exact h
theorem ints_items {is : List Int} : ∀ {vs : List Value}, vs.map abs = is.map AV.int → ∃ xs : List (Int × Tok), vs = xs.map (fun p => Value.int p.1 p.2) ∧ xs.map (·.1) = is := by
  induction is with
  | nil => intro vs e; exact ⟨[], by simpa using e, rfl⟩
  | cons i is ih =>
    intro vs e
    match vs, e with
    | v :: vs, e =>
      simp only [List.map_cons, List.cons.injEq] at e
      obtain ⟨t, rfl⟩ := abs_int e.1
      obtain ⟨xs, rfl, h2⟩ := ih e.2
      exact ⟨(i, t) :: xs, rfl, by simp [h2]⟩
theorem cv_maxL {l : Addr} {is : List Int} (hh : A.handled = none) (hl : H l = some (.list (is.map .int))) (hn : is ≠ []) (h : ∀ M, M ∈ is → (∀ i ∈ is, i ≤ M) → Q (.int M) H) : CV G A (.builtin "max") [.ref l] Q H := fun us eu s hs => by
  obtain ⟨vs, n, e1, r1⟩ := hs.list hl
  obtain ⟨u, rfl, eu'⟩ := us1 eu
  · rw [abs_ref eu']
    obtain ⟨xs, h1, h2⟩ := ints_items r1
    have hv : vs = intItems xs.toArray := by
      apply Array.toList_inj.mp; rw [h1]; simp [intItems]
    subst hv
    have hsz : 0 < xs.toArray.size := by
      cases xs with
      | nil => exact absurd h2.symm hn
      | cons => simp
    refine max_intList hh e1.isList hsz fun v h' tk hv hk => ?_
    obtain ⟨t, rfl⟩ := intItems_at hv
    obtain ⟨k1, k2⟩ := argBest_gt (numAt xs.toArray) (xs.toArray.size - 1)
    refine ⟨H, .kept hs hk, ⟨rfl, rfl, rfl⟩, h _ ?_ fun a ha => ?_⟩
    · rw [numAt_eq, ← h2]; exact getD_mem (by rw [List.length_map]; exact Nat.lt_of_le_of_lt k1 (Nat.sub_lt hsz Nat.one_pos))
    · rw [← h2] at ha
      obtain ⟨j, hj, rfl⟩ := mem_getD ha
      rw [List.length_map] at hj
      have := k2 j (show j ≤ xs.length - 1 by lia)
      rw [numAt_eq] at this
      exact this
theorem c_inT {Q : AV → St → Prop} {m : Str → Option AV} {a : AV} {l : Addr} {xs : List AV} (hl : H l = some (.tup xs)) (fa : flat a = true) (fx : ∀ x ∈ xs, flat x = true) (h : Q (.bool (xs.any fun y => feq y a)) ⟨H, m⟩) : AT2S G A (compareOp .In) a (.ref l) Q ⟨H, m⟩ := c_inT_h (Q := kh Q m) hl fa fx h
theorem c_inL {Q : AV → St → Prop} {m : Str → Option AV} {a : AV} {l : Addr} {xs : List AV} (hl : H l = some (.list xs)) (fa : flat a = true) (fx : ∀ x ∈ xs, flat x = true) (h : Q (.bool (xs.any fun y => feq y a)) ⟨H, m⟩) : AT2S G A (compareOp .In) a (.ref l) Q ⟨H, m⟩ := c_inL_h (Q := kh Q m) hl fa fx h
theorem c_ninL {Q : AV → St → Prop} {m : Str → Option AV} {a : AV} {l : Addr} {xs : List AV} (hl : H l = some (.list xs)) (fa : flat a = true) (fx : ∀ x ∈ xs, flat x = true) (h : Q (.bool (!xs.any fun y => feq y a)) ⟨H, m⟩) : AT2S G A (compareOp .NotIn) a (.ref l) Q ⟨H, m⟩ := c_ninL_h (Q := kh Q m) hl fa fx h
theorem c_eqL_same {Q : AV → St → Prop} {m : Str → Option AV} {l b : Addr} {xs : List AV} (hl : H l = some (.list xs)) (hb : H b = some (.list xs)) (fx : ∀ x ∈ xs, flat x = true) (hu : A.units < cLine) (h : Q (.bool true) ⟨H, m⟩) : AT2S G A (compareOp .Eq) (.ref l) (.ref b) Q ⟨H, m⟩ := c_eqL_same_h (Q := kh Q m) hl hb fx hu h
theorem c_eqL_len {Q : AV → St → Prop} {m : Str → Option AV} {l b : Addr} {xs ys : List AV} (hl : H l = some (.list xs)) (hb : H b = some (.list ys)) (hn : xs.length ≠ ys.length) (hu : A.units < cLine) (h : Q (.bool false) ⟨H, m⟩) : AT2S G A (compareOp .Eq) (.ref l) (.ref b) Q ⟨H, m⟩ := c_eqL_len_h (Q := kh Q m) hl hb hn hu h
theorem c_eqL_nil {Q : AV → St → Prop} {m : Str → Option AV} {l b : Addr} {xs : List AV} (hl : H l = some (.list xs)) (hb : H b = some (.list [])) (hu : A.units < cLine) (h : Q (.bool (decide (xs = []))) ⟨H, m⟩) : AT2S G A (compareOp .Eq) (.ref l) (.ref b) Q ⟨H, m⟩ := c_eqL_nil_h (Q := kh Q m) hl hb hu h
theorem c_neL_ints {Q : AV → St → Prop} {m : Str → Option AV} {l b : Addr} {is js : List Int} (hl : H l = some (.list (is.map .int))) (hb : H b = some (.list (js.map .int))) (hu : A.units + 64 < cLine) (h : Q (.bool (!decide (is = js))) ⟨H, m⟩) : AT2S G A (compareOp .NotEq) (.ref l) (.ref b) Q ⟨H, m⟩ := c_neL_ints_h (Q := kh Q m) hl hb hu h
theorem c_eqT_ints {Q : AV → St → Prop} {m : Str → Option AV} {l b : Addr} {is : List Int} (hl : H l = some (.tup (is.map .int))) (hb : H b = some (.tup (is.map .int))) (hu : A.units + 64 < cLine) (h : Q (.bool true) ⟨H, m⟩) : AT2S G A (compareOp .Eq) (.ref l) (.ref b) Q ⟨H, m⟩ := c_eqT_ints_h (Q := kh Q m) hl hb hu h
theorem c_eqn {Q : AV → St → Prop} {σ : St}  (h : Q (.bool true) σ) : AT2S G A (compareOp .Eq) .none .none Q σ := c_eqn_h (Q := kh Q σ.m) (H := σ.H)  h
end
end Mine
namespace Mine
/-! plain: the kinds, the values, the pieces -/
inductive Kd where
  | lg | it | db | ch | ls
  deriving DecidableEq
noncomputable def Kd.s : Kd → Str
  | .lg => Str.ofString "logical" | .it => Str.ofString "integer" | .db => Str.ofString "double" | .ch => Str.ofString "character" | .ls => Str.ofString "list"
noncomputable def Kd.o : Kd → Nat
  | .lg => 0 | .it => 1 | .db => 2 | .ch => 3 | .ls => 4
inductive Vv where
  | none | int (i : Int) | str (s : Str) | dbl (n d : Int) | null | vec (k : Kd) (xs : List Vv) (nm : Option (List (Option Str)))
noncomputable abbrev S0 : Str := Str.ofString ""
noncomputable def OkS (s : Str) : Prop := s = Str.ofString "" ∨ s = Str.ofString "s" ∨ s = Str.ofString "t u" ∨ s = Str.ofString "1" ∨ s = Str.ofString "TRUE"
inductive OkI : Kd → Vv → Prop
  | none (k : Kd) : OkI k .none
  | l0 : OkI .lg (.int 0)
  | l1 : OkI .lg (.int 1)
  | i (j : Int) (h : -2 ≤ j) (h' : j ≤ 2) : OkI .it (.int j)
  | d0 : OkI .db (.dbl 0 1)
  | d1 : OkI .db (.dbl 3 2)
  | d2 : OkI .db (.dbl (-2) 1)
  | d3 : OkI .db (.dbl 0 0)
  | d4 : OkI .db (.dbl 1 0)
  | s (x : Str) (h : OkS x) : OkI .ch (.str x)
noncomputable def OkO (o : Option Str) : Prop := o = .none ∨ o = some (Str.ofString "") ∨ o = some (Str.ofString "p") ∨ o = some (Str.ofString "q")
noncomputable def OkN (xs : List Vv) : Option (List (Option Str)) → Prop
  | .none => True
  | some l => l.length = xs.length ∧ ∀ o ∈ l, OkO o
/-- a piece, at most n deep -/
noncomputable def OkP : Nat → Vv → Prop
  | _, .null => True
  | 0, .vec k xs nm => xs.length ≤ 3 ∧ OkN xs nm ∧ k ≠ .ls ∧ ∀ x ∈ xs, OkI k x
  | n + 1, .vec k xs nm => xs.length ≤ 3 ∧ OkN xs nm ∧ ((k ≠ .ls ∧ ∀ x ∈ xs, OkI k x) ∨ (k = .ls ∧ ∀ x ∈ xs, OkP n x))
  | _, _ => False
theorem OkP.len {n : Nat} {k : Kd} {xs nm} (h : OkP n (.vec k xs nm)) : xs.length ≤ 3 := by cases n <;> exact h.1
theorem OkP.nm {n : Nat} {k : Kd} {xs nm} (h : OkP n (.vec k xs nm)) : OkN xs nm := by cases n <;> exact h.2.1
theorem OkP.it {n : Nat} {k : Kd} {xs nm} (h : OkP n (.vec k xs nm)) (hk : k ≠ .ls) : ∀ x ∈ xs, OkI k x := by
  cases n with
  | zero => exact h.2.2.2
  | succ n => rcases h.2.2 with q | q; exact q.2; exact absurd q.1 hk
theorem OkP.ls {n : Nat} {xs nm} (h : OkP n (.vec .ls xs nm)) : ∃ m, n = m + 1 ∧ ∀ x ∈ xs, OkP m x := by
  cases n with
  | zero => exact absurd rfl h.2.2.1
  | succ n => rcases h.2.2 with q | q; exact absurd rfl q.1; exact ⟨n, rfl, q.2⟩
theorem OkP.cases {n : Nat} {v : Vv} (h : OkP n v) : v = .null ∨ ∃ k xs nm, v = .vec k xs nm := by
  cases v with
  | null => exact .inl rfl
  | vec k xs nm => exact .inr ⟨k, xs, nm, rfl⟩
  | _ => cases n <;> exact h.elim
theorem OkP.up {n : Nat} : ∀ {v : Vv}, OkP n v → OkP (n + 1) v := by
  induction n with
  | zero =>
    intro v h
    rcases h.cases with rfl | ⟨k, xs, nm, rfl⟩
    · trivial
    · exact ⟨h.1, h.2.1, .inl h.2.2⟩
  | succ n ih =>
    intro v h
    rcases h.cases with rfl | ⟨k, xs, nm, rfl⟩
    · trivial
    · exact ⟨h.1, h.2.1, h.2.2.imp id fun q => ⟨q.1, fun x hx => ih (q.2 x hx)⟩⟩
theorem OkP.le {n m : Nat} {v : Vv} (h : OkP n v) (l : n ≤ m) : OkP m v := by
  induction l with
  | refl => exact h
  | step _ ih => exact ih.up
/-- the names of a vector, one an item -/
noncomputable def nmL (xs : List Vv) : Option (List (Option Str)) → List Str
  | .none => xs.map fun _ => S0
  | some l => l.map fun o => o.getD S0
theorem nmL_len {xs nm} (h : OkN xs nm) : (nmL xs nm).length = xs.length := by
  cases nm with
  | none => simp [nmL]
  | some l => simpa [nmL] using h.1
/-! the leaves counted -/
mutual
noncomputable def cnt (u : Bool) : Vv → Nat
  | .vec k xs _ => if k = .ls ∧ u = true then cnts u xs else xs.length
  | .none => 0
  | .int _ => 0
  | .str _ => 0
  | .dbl _ _ => 0
  | .null => 0
noncomputable def cnts (u : Bool) : List Vv → Nat
  | [] => 0
  | x :: xs => cnt u x + cnts u xs
end
/-! what the law says: the leaves with their tags, the innermost span where it is the leaf's own -/
structure Leaf where
  k : Kd
  x : Vv
  tags : List Str
  name : Str
  sp : Option (Nat × Nat)
noncomputable def close (f b : Nat) (l : Leaf) : Leaf := { l with sp := some (l.sp.getD (f, b)) }
mutual
noncomputable def lv (u : Bool) : Vv → List Str → Nat → List Leaf
  | .vec k xs nm, tags, at_ => if k = .ls ∧ u = true then lvs u xs (nmL xs nm) tags at_ else (xs.zip (nmL xs nm)).map fun p => ⟨k, p.1, tags, p.2, .none⟩
  | .none, _, _ => []
  | .int _, _, _ => []
  | .str _, _, _ => []
  | .dbl _ _, _, _ => []
  | .null, _, _ => []
noncomputable def lvs (u : Bool) : List Vv → List Str → List Str → Nat → List Leaf
  | x :: xs, n :: ns, tags, at_ => (if n = S0 then lv u x tags at_ else (lv u x (tags ++ [n]) at_).map (close at_ (at_ + cnt u x))) ++ lvs u xs ns tags (at_ + cnt u x)
  | [], _, _, _ => []
  | _ :: _, [], _, _ => []
end
noncomputable def join (xs : List Str) : Str := Txt.join (Str.ofString ".") xs
noncomputable def natS (n : Nat) : Str := Str.ofString (toString (n : Int))
noncomputable def lname (l : Leaf) (at_ : Nat) : Str :=
  if l.name ≠ S0 then join (l.tags ++ [l.name]) else if l.tags = [] then S0 else
    join l.tags ++ (if 1 < (l.sp.getD (0, 0)).2 - (l.sp.getD (0, 0)).1 then natS (at_ - (l.sp.getD (0, 0)).1 + 1) else S0)
noncomputable def lnames : List Leaf → Nat → List Str
  | [], _ => []
  | l :: r, at_ => lname l at_ :: lnames r (at_ + 1)
/-! what the code does -/
noncomputable def jb (base tag : Str) : Str := if base ≠ S0 ∧ tag ≠ S0 then base ++ Str.ofString "." ++ tag else if tag ≠ S0 then tag else base
noncomputable def leafN (base name : Str) (num count : Nat) : Str := if name ≠ S0 then jb base name else if base = S0 ∨ count = 1 then base else base ++ natS num
noncomputable def leafs : List Str → Str → Nat → Nat → List Str
  | [], _, _, _ => []
  | n :: ns, base, num, count => leafN base n (num + 1) count :: leafs ns base (num + 1) count
mutual
noncomputable def ex (u : Bool) : Vv → Str → Str → Nat → Nat → List Str
  | .vec k xs nm, base, tag, num, count =>
    if k = .ls ∧ u = true then exs u xs (nmL xs nm) (jb base tag) (if tag ≠ S0 then 0 else num) (if tag ≠ S0 then cnts u xs else count)
    else leafs (nmL xs nm) (jb base tag) (if tag ≠ S0 then 0 else num) (if tag ≠ S0 then xs.length else count)
  | .none, _, _, _, _ => []
  | .int _, _, _, _, _ => []
  | .str _, _, _, _, _ => []
  | .dbl _ _, _, _, _, _ => []
  | .null, _, _, _, _ => []
noncomputable def exs (u : Bool) : List Vv → List Str → Str → Nat → Nat → List Str
  | x :: xs, n :: ns, base, num, count => ex u x base n num count ++ exs u xs ns base (num + cnt u x) count
  | [], _, _, _, _ => []
  | _ :: _, [], _, _, _ => []
end
end Mine
namespace Mine
/-- the fixed things, the part of the heap that the program laid being known -/
structure GO (G : Md) : Prop where
  gd : Gd G
  K : G.K = hd.heap_39 G.w.params
section
variable {G : Md} {A : Around} {env : Env} {σ : St} {pos : Pos}
theorem GO.mg (g : GO G) {x : Str} {v : Value} (e : nsIn (hd.heap_39 G.w.params) mainGlobals x = some (some v)) : G.mg x = some v := mg_of (g.K ▸ g.gd.X) g.gd.g e
theorem GO.mgn (g : GO G) {x : Str} (e : nsIn (hd.heap_39 G.w.params) mainGlobals x = some none) : G.mg x = none := mg_none_of (g.K ▸ g.gd.X) g.gd.g e
theorem GO.keep (g : GO G) {a : Addr} (e : keepIn (hd.heap_39 G.w.params) (.ref a) = true) : keepIn G.K (.ref a) = true := by rw [g.K]; exact e
theorem GO.fn (g : GO G) {f : Addr} {oc : Value} {od : Option Addr} {osl : Array (Option Value)} {fd : FuncData} {body : List Stmt} (h1 : (hd.heap_39 G.w.params).lookup f = some ⟨oc, od, .func fd, osl⟩)
    (h2 : codeIn (hd.heap_39 G.w.params) fd.code fd.qualname = true) (h3 : fd.body = .stmts body) (h4 : fd.closure = []) (h5 : fd.globals = mainGlobals) (h6 : fd.builtins = builtinsNs) (h7 : fd.scope.isCoroutine = false) (h8 : fd.scope.isGenerator = false)
    (h9 : fd.scope.kind = .function) (h10 : (fd.scope.names.all fun p => p.2 != .free) = true) : FnOK G f fd body :=
  ⟨⟨oc, od, osl, by rw [g.K]; exact h1⟩, by rw [g.K]; exact h2, h3, h4, h5, h6, h7, h8, h9, h10⟩
/-- the body and the scope of a def's statement -/
noncomputable def bod (s : Stmt) : Option (List Stmt) := match s with
  | .FunctionDef _ _ b _ _ _ _ _ _ _ => some b
  | _ => none
noncomputable def scp (s : Stmt) : Scope := match s with
  | .FunctionDef _ _ _ _ _ _ sc _ _ _ => sc
  | _ => default
noncomputable def fnB (s : Stmt) (ps : List Str) : Bool := match s with
  | .FunctionDef _ _ _ _ _ _ sc _ _ _ => !sc.isCoroutine && !sc.isGenerator && sc.kind == .function && (sc.names.all fun p => p.2 != .free) && ps.all (okParam sc)
  | _ => false
noncomputable def bindO (s : Stmt) (q m : String) (mi c : Nat) (d : Value) (vals : List Value) : Sem (List (Str × Value)) := match (fo s q m mi c d).data with
  | .func fd => bindArgs fd ⟨vals, []⟩
  | _ => pure []
structure FX (G : Md) (f : Addr) (ps : List Str) (s : Stmt) : Prop where
  ok : ∃ fd body, FnOK G f fd body ∧ bod s = some body ∧ fd.scope = scp s ∧ (∀ vals : List Value, vals.length = ps.length → bindArgs fd ⟨vals, []⟩ = pure (ps.zip vals)) ∧ (ps.all (okParam fd.scope)) = true
theorem fx_of (g : GO G) {f : Addr} {s : Stmt} {q m : String} {mi c : Nat} {d : Value} {ps : List Str} (h1 : (hd.heap_39 G.w.params).lookup f = some (fo s q m mi c d)) (h2 : codeIn (hd.heap_39 G.w.params) (.ref c) (Str.ofString q) = true) (h3 : fnB s ps = true)
    (hb : ∀ vals : List Value, vals.length = ps.length → bindO s q m mi c d vals = pure (ps.zip vals)) : FX G f ps s := by
  cases s <;> first | (exfalso; simp [fnB] at h3; done) | skip
  unfold fnB at h3
  simp only [Bool.and_eq_true, Bool.not_eq_true', beq_iff_eq] at h3
  obtain ⟨⟨⟨⟨a1, a2⟩, a3⟩, a4⟩, a5⟩ := h3
  exact ⟨_, _, g.fn h1 h2 rfl rfl rfl rfl a1 a2 a3 a4, rfl, rfl, hb, a5⟩
theorem len0 {α : Type} {P : List α → Prop} (h : P []) : ∀ l, l.length = 0 → P l := fun l e => by cases l <;> first | exact h | cases e
theorem lenS {α : Type} {P : List α → Prop} {n : Nat} (h : ∀ a l, l.length = n → P (a :: l)) : ∀ l, l.length = n + 1 → P l := fun l e => by
  cases l with
  | nil => cases e
  | cons a l => exact h a l (Nat.succ.inj e)
/-- how a call of the text ends -/
noncomputable def kfin (Q : AV → AH → Prop) : AFl → St → Prop := fun fl σ => Q (retV fl) σ.H
theorem kfin_r {Q : AV → AH → Prop} {v : AV} {H : AH} {m : Str → Option AV} (h : Q v H) : kfin Q (.ret v) ⟨H, m⟩ := h
theorem kfin_n {Q : AV → AH → Prop} {H : AH} {m : Str → Option AV} (h : Q .none H) : kfin Q .next ⟨H, m⟩ := h
noncomputable def m0 : Str → Option AV := fun _ => none
/-- a def of the text entered -/
theorem FX.go (g : GO G) {f : Addr} {ps : List Str} {s : Stmt} {body : List Stmt} {args : List AV} {Q : AV → AH → Prop} {H : AH} {D : Nat} {A : Around} (ar : Ar (D + 1) A) (fx : FX G f ps s) (hbd : bod s = some body) (hl : args.length = ps.length)
    (h : ∀ A env, Ar D A → EnvOK env → env.scope = scp s → WS G A env body (kfin Q) ⟨H, bindM (ps.zip args)⟩) : CC G A f args Q H := by
  obtain ⟨fd, body', ok, e1, e2, e3, e4⟩ := fx.ok
  rw [hbd] at e1; cases e1
  exact wcall g.gd ok (fun vals e => e3 vals (by rw [← hl, ← e, List.length_map])) e4 (by rw [e2]; exact h) A ar
section
variable {f : Addr} {s : Stmt} {body : List Stmt} {Q : AV → AH → Prop} {H : AH} {D : Nat} {A : Around} {p1 p2 p3 p4 p5 : Str} {a1 a2 a3 a4 a5 : AV}
theorem go0 (g : GO G) (ar : Ar (D + 1) A) (fx : FX G f [] s) (hbd : bod s = some body) (h : ∀ A env, Ar D A → EnvOK env → env.scope = scp s → WS G A env body (kfin Q) ⟨H, m0⟩) : CC G A f [] Q H := fx.go g ar hbd rfl h
theorem go1 (g : GO G) (ar : Ar (D + 1) A) (fx : FX G f [p1] s) (hbd : bod s = some body) (h : ∀ A env, Ar D A → EnvOK env → env.scope = scp s → WS G A env body (kfin Q) ⟨H, put m0 p1 a1⟩) : CC G A f [a1] Q H := fx.go g ar hbd rfl h
theorem go2 (g : GO G) (ar : Ar (D + 1) A) (fx : FX G f [p1, p2] s) (hbd : bod s = some body) (h : ∀ A env, Ar D A → EnvOK env → env.scope = scp s → WS G A env body (kfin Q) ⟨H, put (put m0 p1 a1) p2 a2⟩) : CC G A f [a1, a2] Q H := fx.go g ar hbd rfl h
theorem go3 (g : GO G) (ar : Ar (D + 1) A) (fx : FX G f [p1, p2, p3] s) (hbd : bod s = some body) (h : ∀ A env, Ar D A → EnvOK env → env.scope = scp s → WS G A env body (kfin Q) ⟨H, put (put (put m0 p1 a1) p2 a2) p3 a3⟩) : CC G A f [a1, a2, a3] Q H := fx.go g ar hbd rfl h
theorem go4 (g : GO G) (ar : Ar (D + 1) A) (fx : FX G f [p1, p2, p3, p4] s) (hbd : bod s = some body) (h : ∀ A env, Ar D A → EnvOK env → env.scope = scp s → WS G A env body (kfin Q) ⟨H, put (put (put (put m0 p1 a1) p2 a2) p3 a3) p4 a4⟩) : CC G A f [a1, a2, a3, a4] Q H := fx.go g ar hbd rfl h
theorem go5 (g : GO G) (ar : Ar (D + 1) A) (fx : FX G f [p1, p2, p3, p4, p5] s) (hbd : bod s = some body) (h : ∀ A env, Ar D A → EnvOK env → env.scope = scp s → WS G A env body (kfin Q) ⟨H, put (put (put (put (put m0 p1 a1) p2 a2) p3 a3) p4 a4) p5 a5⟩) : CC G A f [a1, a2, a3, a4, a5] Q H := fx.go g ar hbd rfl h
end
theorem us0 {us : List Value} (e : us.map abs = []) : us = [] := by simpa using e
theorem us3 {us : List Value} {a b c : AV} (e : us.map abs = [a, b, c]) : ∃ u w x, us = [u, w, x] := by
  match us with
  | [u, w, x] => exact ⟨u, w, x, rfl⟩
  | [] => cases e
  | [_] => simp at e
  | [_, _] => simp at e
  | _ :: _ :: _ :: _ :: _ => simp at e
theorem us4 {us : List Value} {a b c d : AV} (e : us.map abs = [a, b, c, d]) : ∃ u w x y, us = [u, w, x, y] := by
  match us with
  | [u, w, x, y] => exact ⟨u, w, x, y, rfl⟩
  | [] => cases e
  | [_] => simp at e
  | [_, _] => simp at e
  | [_, _, _] => simp at e
  | _ :: _ :: _ :: _ :: _ :: _ => simp at e
theorem us5 {us : List Value} {a b c d f : AV} (e : us.map abs = [a, b, c, d, f]) : ∃ u w x y z, us = [u, w, x, y, z] := by
  match us with
  | [u, w, x, y, z] => exact ⟨u, w, x, y, z, rfl⟩
  | [] => cases e
  | [_] => simp at e
  | [_, _] => simp at e
  | [_, _, _] => simp at e
  | [_, _, _, _] => simp at e
  | _ :: _ :: _ :: _ :: _ :: _ :: _ => simp at e
theorem kindOf_sc {sc : Scope} {x : Str} {k : Option NameKind} (e : env.scope = sc) (h : sc.names.lookup x = k) : env.kindOf x = k := by unfold Env.kindOf; rw [e]; exact h
theorem sto_sc {sc : Scope} {x : Str} (e : env.scope = sc) (h : okParam sc x = true) : Sto env x := by
  unfold okParam at h
  simp only [Bool.and_eq_true, Bool.or_eq_true, beq_iff_eq, Bool.not_eq_true'] at h
  exact ⟨h.1.1.imp (kindOf_sc e) (kindOf_sc e), h.1.2, h.2⟩
/-- a name looked up, the names stored since being others -/
theorem look_by {m m' : Str → Option AV} {x : Str} {r : Option AV} (h : m' x = r) (e : m x = m' x) : m x = r := e.trans h
theorem look_same {m : Str → Option AV} {x : Str} {v : AV} : put m x v x = some v := if_pos rfl
noncomputable def dif (x y : Str) : Bool := !(y == x)
theorem dif_ne {x y : Str} (n : dif x y = true) : y ≠ x := fun e => by unfold dif at n; rw [e] at n; simp at n
theorem look_ne {m : Str → Option AV} {x y : Str} {v : AV} {r : Option AV} (h : m y = r) (n : dif x y = true) : put m x v y = r := (if_neg (dif_ne n)).trans h
/-- a name of the module or a built-in one -/
noncomputable def gq (sc : Scope) (x : Str) : Bool := sc.names.lookup x == some .globalImplicit && !(x == ("__debug__" : Str)) && !(x == ("__name__" : Str))
theorem gq_k {sc : Scope} {x : Str} (e : env.scope = sc) (h : gq sc x = true) : env.kindOf x = some .globalImplicit := kindOf_sc e (by unfold gq at h; simp only [Bool.and_eq_true, beq_iff_eq] at h; exact h.1.1)
theorem gq_d {sc : Scope} {x : Str} (h : gq sc x = true) : (x == ("__debug__" : Str)) = false := by unfold gq at h; simp only [Bool.and_eq_true, Bool.not_eq_true'] at h; exact h.1.2
theorem gq_n {sc : Scope} {x : Str} (h : gq sc x = true) : x ≠ "__name__" := fun e => by unfold gq at h; rw [e] at h; simp at h
theorem nx_next {rest : List Stmt} {Q : AFl → St → Prop} (h : WS G A env rest Q σ) : nx G A env rest Q .next σ := h
theorem nx_ret {rest : List Stmt} {Q : AFl → St → Prop} {v : AV} (h : Q (.ret v) σ) : nx G A env rest Q (.ret v) σ := h
theorem nx_cont {rest : List Stmt} {Q : AFl → St → Prop} (h : Q .cont σ) : nx G A env rest Q .cont σ := h
theorem we_gref {sc : Scope} {x : Str} {a : Addr} {Q : AV → St → Prop} (eo : EnvOK env) (g : GO G) (hsc : env.scope = sc) (hg : G.mg x = some (.ref a)) (hq : gq sc x = true) (h : Q (.ref a) σ) : WE G A env (.Name x pos) Q σ :=
  we_global eo g.gd (gq_k hsc hq) hg h (gq_d hq)
theorem we_bi {sc : Scope} {x : Str} {i : String} {Q : AV → St → Prop} (eo : EnvOK env) (g : GO G) (hsc : env.scope = sc) (hg : G.mg x = none ∧ bootBuiltins x = some (.builtin i)) (hq : gq sc x = true) (h : Q (.bi i) σ) : WE G A env (.Name x pos) Q σ :=
  we_builtin eo g.gd (gq_k hsc hq) hg.1 hg.2 (gq_n hq) h (gq_d hq)
theorem we_ty {sc : Scope} {x : Str} {i : String} {Q : AV → St → Prop} (eo : EnvOK env) (g : GO G) (hsc : env.scope = sc) (hg : G.mg x = none ∧ bootBuiltins x = some (.type i)) (hq : gq sc x = true) (h : Q (.ty i) σ) : WE G A env (.Name x pos) Q σ :=
  we_builtin eo g.gd (gq_k hsc hq) hg.1 hg.2 (gq_n hq) h (gq_d hq)
end
theorem fill (P : Params) : hd.heap_39 P = hd.heap_39 P ∧ PySem.Challenge.rw_nz0506_01 = PySem.Challenge.rw_nz0506_01 := by k_fill; exact ⟨rfl, rfl⟩
end Mine
namespace Mine
section
variable {G : Md}
theorem mg_get_attr (g : GO G) : G.mg (Str.ofString "get_attr") = some (.ref 28) := g.mg (by k_is)
theorem mg_names_of (g : GO G) : G.mg (Str.ofString "names_of") = some (.ref 33) := g.mg (by k_is)
theorem mg_dim_of (g : GO G) : G.mg (Str.ofString "dim_of") = some (.ref 40) := g.mg (by k_is)
theorem mg_gcd (g : GO G) : G.mg (Str.ofString "gcd") = some (.ref 87) := g.mg (by k_is)
theorem mg_nearest_whole (g : GO G) : G.mg (Str.ofString "nearest_whole") = some (.ref 136) := g.mg (by k_is)
theorem mg_exponent (g : GO G) : G.mg (Str.ofString "exponent") = some (.ref 143) := g.mg (by k_is)
theorem mg_whole_text (g : GO G) : G.mg (Str.ofString "whole_text") = some (.ref 150) := g.mg (by k_is)
theorem mg_special_text (g : GO G) : G.mg (Str.ofString "special_text") = some (.ref 157) := g.mg (by k_is)
theorem mg_scaled (g : GO G) : G.mg (Str.ofString "scaled") = some (.ref 164) := g.mg (by k_is)
theorem mg_significant (g : GO G) : G.mg (Str.ofString "significant") = some (.ref 171) := g.mg (by k_is)
theorem mg_without_tail (g : GO G) : G.mg (Str.ofString "without_tail") = some (.ref 178) := g.mg (by k_is)
theorem mg_fixed_text (g : GO G) : G.mg (Str.ofString "fixed_text") = some (.ref 192) := g.mg (by k_is)
theorem mg_measures (g : GO G) : G.mg (Str.ofString "measures") = some (.ref 199) := g.mg (by k_is)
theorem mg_chosen_form (g : GO G) : G.mg (Str.ofString "chosen_form") = some (.ref 206) := g.mg (by k_is)
theorem mg_formed (g : GO G) : G.mg (Str.ofString "formed") = some (.ref 213) := g.mg (by k_is)
theorem mg_common_texts (g : GO G) : G.mg (Str.ofString "common_texts") = some (.ref 218) := g.mg (by k_is)
theorem mg_number_text (g : GO G) : G.mg (Str.ofString "number_text") = some (.ref 226) := g.mg (by k_is)
theorem mg_from_int (g : GO G) : G.mg (Str.ofString "from_int") = some (.ref 101) := g.mg (by k_is)
theorem mg_null (g : GO G) : G.mg (Str.ofString "null") = some (.ref 325) := g.mg (by k_is)
theorem mg_character (g : GO G) : G.mg (Str.ofString "character") = some (.ref 332) := g.mg (by k_is)
theorem mg_named (g : GO G) : G.mg (Str.ofString "named") = some (.ref 339) := g.mg (by k_is)
theorem mg_is_vector (g : GO G) : G.mg (Str.ofString "is_vector") = some (.ref 353) := g.mg (by k_is)
theorem mg_share (g : GO G) : G.mg (Str.ofString "share") = some (.ref 367) := g.mg (by k_is)
theorem mg_kind_order (g : GO G) : G.mg (Str.ofString "kind_order") = some (.ref 374) := g.mg (by k_is)
theorem mg_common_kind (g : GO G) : G.mg (Str.ofString "common_kind") = some (.ref 381) := g.mg (by k_is)
theorem mg_to_integer (g : GO G) : G.mg (Str.ofString "to_integer") = some (.ref 423) := g.mg (by k_is)
theorem mg_to_double (g : GO G) : G.mg (Str.ofString "to_double") = some (.ref 430) := g.mg (by k_is)
theorem mg_to_text (g : GO G) : G.mg (Str.ofString "to_text") = some (.ref 437) := g.mg (by k_is)
theorem mg_item_as (g : GO G) : G.mg (Str.ofString "item_as") = some (.ref 444) := g.mg (by k_is)
theorem mg_is_atomic_kind (g : GO G) : G.mg (Str.ofString "is_atomic_kind") = some (.ref 451) := g.mg (by k_is)
theorem mg_with_names (g : GO G) : G.mg (Str.ofString "with_names") = some (.ref 477) := g.mg (by k_is)
theorem mg_as_kind (g : GO G) : G.mg (Str.ofString "as_kind") = some (.ref 482) := g.mg (by k_is)
theorem mg_opens (g : GO G) : G.mg (Str.ofString "opens") = some (.ref 510) := g.mg (by k_is)
theorem mg_count_leaves (g : GO G) : G.mg (Str.ofString "count_leaves") = some (.ref 517) := g.mg (by k_is)
theorem mg_joined_base (g : GO G) : G.mg (Str.ofString "joined_base") = some (.ref 524) := g.mg (by k_is)
theorem mg_leaf_name (g : GO G) : G.mg (Str.ofString "leaf_name") = some (.ref 531) := g.mg (by k_is)
theorem mg_plain_names (g : GO G) : G.mg (Str.ofString "plain_names") = some (.ref 536) := g.mg (by k_is)
theorem mg_extract_names (g : GO G) : G.mg (Str.ofString "extract_names") = some (.ref 543) := g.mg (by k_is)
theorem mg_has_names (g : GO G) : G.mg (Str.ofString "has_names") = some (.ref 550) := g.mg (by k_is)
theorem mg_joined_names (g : GO G) : G.mg (Str.ofString "joined_names") = some (.ref 557) := g.mg (by k_is)
theorem mg_gather (g : GO G) : G.mg (Str.ofString "gather") = some (.ref 564) := g.mg (by k_is)
theorem mg_part_items (g : GO G) : G.mg (Str.ofString "part_items") = some (.ref 571) := g.mg (by k_is)
theorem mg_combine (g : GO G) : G.mg (Str.ofString "combine") = some (.ref 576) := g.mg (by k_is)
theorem mg_unlisted (g : GO G) : G.mg (Str.ofString "unlisted") = some (.ref 583) := g.mg (by k_is)
theorem mg_law_digits (g : GO G) : G.mg (Str.ofString "_law_digits") = some (.ref 590) := g.mg (by k_is)
theorem mg_law_draw (g : GO G) : G.mg (Str.ofString "_law_draw") = some (.ref 597) := g.mg (by k_is)
theorem mg_law_names (g : GO G) : G.mg (Str.ofString "_law_names") = some (.ref 602) := g.mg (by k_is)
theorem mg_law_value (g : GO G) : G.mg (Str.ofString "_law_value") = some (.ref 607) := g.mg (by k_is)
theorem mg_law_built (g : GO G) : G.mg (Str.ofString "_law_built") = some (.ref 612) := g.mg (by k_is)
theorem mg_law_leaves (g : GO G) : G.mg (Str.ofString "_law_leaves") = some (.ref 619) := g.mg (by k_is)
theorem mg_law_text (g : GO G) : G.mg (Str.ofString "_law_text") = some (.ref 626) := g.mg (by k_is)
theorem mg_law_as (g : GO G) : G.mg (Str.ofString "_law_as") = some (.ref 633) := g.mg (by k_is)
theorem mg_law_kinds (g : GO G) : G.mg (Str.ofString "_law_kinds") = some (.ref 638) := g.mg (by k_is)
theorem mg_law_has (g : GO G) : G.mg (Str.ofString "_law_has") = some (.ref 643) := g.mg (by k_is)
theorem mg_law_name (g : GO G) : G.mg (Str.ofString "_law_name") = some (.ref 650) := g.mg (by k_is)
theorem mg_law_same (g : GO G) : G.mg (Str.ofString "_law_same") = some (.ref 655) := g.mg (by k_is)
theorem mg_law_due (g : GO G) : G.mg (Str.ofString "_law_due") = some (.ref 660) := g.mg (by k_is)
theorem mg_law_alike (g : GO G) : G.mg (Str.ofString "_law_alike") = some (.ref 667) := g.mg (by k_is)
theorem mg_Vector (g : GO G) : G.mg (Str.ofString "Vector") = some (.ref 314) := g.mg (by k_is)
theorem mg_Null (g : GO G) : G.mg (Str.ofString "Null") = some (.ref 285) := g.mg (by k_is)
theorem mg_NameRow (g : GO G) : G.mg (Str.ofString "NameRow") = some (.ref 499) := g.mg (by k_is)
theorem mb_len (g : GO G) : G.mg (Str.ofString "len") = none ∧ bootBuiltins (Str.ofString "len") = some (.builtin "len") := ⟨g.mgn (by k_is), by kernel_rfl⟩
theorem mb_range (g : GO G) : G.mg (Str.ofString "range") = none ∧ bootBuiltins (Str.ofString "range") = some (.type "range") := ⟨g.mgn (by k_is), by kernel_rfl⟩
theorem mb_list (g : GO G) : G.mg (Str.ofString "list") = none ∧ bootBuiltins (Str.ofString "list") = some (.type "list") := ⟨g.mgn (by k_is), by kernel_rfl⟩
theorem mb_str (g : GO G) : G.mg (Str.ofString "str") = none ∧ bootBuiltins (Str.ofString "str") = some (.type "str") := ⟨g.mgn (by k_is), by kernel_rfl⟩
theorem mb_abs (g : GO G) : G.mg (Str.ofString "abs") = none ∧ bootBuiltins (Str.ofString "abs") = some (.builtin "abs") := ⟨g.mgn (by k_is), by kernel_rfl⟩
theorem mb_max (g : GO G) : G.mg (Str.ofString "max") = none ∧ bootBuiltins (Str.ofString "max") = some (.builtin "max") := ⟨g.mgn (by k_is), by kernel_rfl⟩
theorem mb_isinstance (g : GO G) : G.mg (Str.ofString "isinstance") = none ∧ bootBuiltins (Str.ofString "isinstance") = some (.builtin "isinstance") := ⟨g.mgn (by k_is), by kernel_rfl⟩
theorem mb_int (g : GO G) : G.mg (Str.ofString "int") = none ∧ bootBuiltins (Str.ofString "int") = some (.type "int") := ⟨g.mgn (by k_is), by kernel_rfl⟩
theorem mb_tuple (g : GO G) : G.mg (Str.ofString "tuple") = none ∧ bootBuiltins (Str.ofString "tuple") = some (.type "tuple") := ⟨g.mgn (by k_is), by kernel_rfl⟩
end
end Mine
namespace Mine
section
variable {G : Md} {s : Stmt} {q m : String} {mi c : Nat} {d : Value} {p1 p2 p3 p4 p5 : Str}
theorem bin0 (h : bindO s q m mi c d [] = pure (List.zip ([] : List Str) [])) : ∀ vals : List Value, vals.length = ([] : List Str).length → bindO s q m mi c d vals = pure (List.zip ([] : List Str) vals) := len0 (P := fun l => bindO s q m mi c d (l) = pure (List.zip ([] : List Str) (l))) (h)
theorem bin1 (h : ∀ u1 : Value, bindO s q m mi c d [u1] = pure (List.zip [p1] [u1])) : ∀ vals : List Value, vals.length = [p1].length → bindO s q m mi c d vals = pure (List.zip [p1] vals) := lenS (P := fun l => bindO s q m mi c d (l) = pure (List.zip [p1] (l))) (fun u1 => len0 (P := fun l => bindO s q m mi c d (u1 :: l) = pure (List.zip [p1] (u1 :: l))) (h u1))
theorem bin2 (h : ∀ u1 u2 : Value, bindO s q m mi c d [u1, u2] = pure (List.zip [p1, p2] [u1, u2])) : ∀ vals : List Value, vals.length = [p1, p2].length → bindO s q m mi c d vals = pure (List.zip [p1, p2] vals) := lenS (P := fun l => bindO s q m mi c d (l) = pure (List.zip [p1, p2] (l))) (fun u1 => lenS (P := fun l => bindO s q m mi c d (u1 :: l) = pure (List.zip [p1, p2] (u1 :: l))) (fun u2 => len0 (P := fun l => bindO s q m mi c d (u1 :: u2 :: l) = pure (List.zip [p1, p2] (u1 :: u2 :: l))) (h u1 u2)))
theorem bin3 (h : ∀ u1 u2 u3 : Value, bindO s q m mi c d [u1, u2, u3] = pure (List.zip [p1, p2, p3] [u1, u2, u3])) : ∀ vals : List Value, vals.length = [p1, p2, p3].length → bindO s q m mi c d vals = pure (List.zip [p1, p2, p3] vals) := lenS (P := fun l => bindO s q m mi c d (l) = pure (List.zip [p1, p2, p3] (l))) (fun u1 => lenS (P := fun l => bindO s q m mi c d (u1 :: l) = pure (List.zip [p1, p2, p3] (u1 :: l))) (fun u2 => lenS (P := fun l => bindO s q m mi c d (u1 :: u2 :: l) = pure (List.zip [p1, p2, p3] (u1 :: u2 :: l))) (fun u3 => len0 (P := fun l => bindO s q m mi c d (u1 :: u2 :: u3 :: l) = pure (List.zip [p1, p2, p3] (u1 :: u2 :: u3 :: l))) (h u1 u2 u3))))
theorem bin4 (h : ∀ u1 u2 u3 u4 : Value, bindO s q m mi c d [u1, u2, u3, u4] = pure (List.zip [p1, p2, p3, p4] [u1, u2, u3, u4])) : ∀ vals : List Value, vals.length = [p1, p2, p3, p4].length → bindO s q m mi c d vals = pure (List.zip [p1, p2, p3, p4] vals) := lenS (P := fun l => bindO s q m mi c d (l) = pure (List.zip [p1, p2, p3, p4] (l))) (fun u1 => lenS (P := fun l => bindO s q m mi c d (u1 :: l) = pure (List.zip [p1, p2, p3, p4] (u1 :: l))) (fun u2 => lenS (P := fun l => bindO s q m mi c d (u1 :: u2 :: l) = pure (List.zip [p1, p2, p3, p4] (u1 :: u2 :: l))) (fun u3 => lenS (P := fun l => bindO s q m mi c d (u1 :: u2 :: u3 :: l) = pure (List.zip [p1, p2, p3, p4] (u1 :: u2 :: u3 :: l))) (fun u4 => len0 (P := fun l => bindO s q m mi c d (u1 :: u2 :: u3 :: u4 :: l) = pure (List.zip [p1, p2, p3, p4] (u1 :: u2 :: u3 :: u4 :: l))) (h u1 u2 u3 u4)))))
theorem bin5 (h : ∀ u1 u2 u3 u4 u5 : Value, bindO s q m mi c d [u1, u2, u3, u4, u5] = pure (List.zip [p1, p2, p3, p4, p5] [u1, u2, u3, u4, u5])) : ∀ vals : List Value, vals.length = [p1, p2, p3, p4, p5].length → bindO s q m mi c d vals = pure (List.zip [p1, p2, p3, p4, p5] vals) := lenS (P := fun l => bindO s q m mi c d (l) = pure (List.zip [p1, p2, p3, p4, p5] (l))) (fun u1 => lenS (P := fun l => bindO s q m mi c d (u1 :: l) = pure (List.zip [p1, p2, p3, p4, p5] (u1 :: l))) (fun u2 => lenS (P := fun l => bindO s q m mi c d (u1 :: u2 :: l) = pure (List.zip [p1, p2, p3, p4, p5] (u1 :: u2 :: l))) (fun u3 => lenS (P := fun l => bindO s q m mi c d (u1 :: u2 :: u3 :: l) = pure (List.zip [p1, p2, p3, p4, p5] (u1 :: u2 :: u3 :: l))) (fun u4 => lenS (P := fun l => bindO s q m mi c d (u1 :: u2 :: u3 :: u4 :: l) = pure (List.zip [p1, p2, p3, p4, p5] (u1 :: u2 :: u3 :: u4 :: l))) (fun u5 => len0 (P := fun l => bindO s q m mi c d (u1 :: u2 :: u3 :: u4 :: u5 :: l) = pure (List.zip [p1, p2, p3, p4, p5] (u1 :: u2 :: u3 :: u4 :: u5 :: l))) (h u1 u2 u3 u4 u5))))))
theorem fx28 (g : GO G) : FX G 28 ["v", "name"] (st 2) := fx_of g (q := "get_attr") (m := "vectorcove.attrs") (mi := 194) (c := 27) (d := .none) (by kernel_rfl) (by kernel_rfl) (by kernel_rfl) (bin2 (fun u0 u1 => by kernel_rfl))
theorem fx33 (g : GO G) : FX G 33 ["v"] (st 3) := fx_of g (q := "names_of") (m := "vectorcove.attrs") (mi := 194) (c := 32) (d := .none) (by kernel_rfl) (by kernel_rfl) (by kernel_rfl) (bin1 (fun u0 => by kernel_rfl))
theorem fx40 (g : GO G) : FX G 40 ["v"] (st 4) := fx_of g (q := "dim_of") (m := "vectorcove.attrs") (mi := 194) (c := 39) (d := .none) (by kernel_rfl) (by kernel_rfl) (by kernel_rfl) (bin1 (fun u0 => by kernel_rfl))
theorem fx101 (g : GO G) : FX G 101 ["n"] (st 15) := fx_of g (q := "from_int") (m := "vectorcove.rational") (mi := 271) (c := 100) (d := .none) (by kernel_rfl) (by kernel_rfl) (by kernel_rfl) (bin1 (fun u0 => by kernel_rfl))
theorem fx136 (g : GO G) : FX G 136 ["n", "d"] (st 20) := fx_of g (q := "nearest_whole") (m := "vectorcove.rational") (mi := 271) (c := 135) (d := .none) (by kernel_rfl) (by kernel_rfl) (by kernel_rfl) (bin2 (fun u0 u1 => by kernel_rfl))
theorem fx143 (g : GO G) : FX G 143 ["x"] (st 21) := fx_of g (q := "exponent") (m := "vectorcove.rational") (mi := 271) (c := 142) (d := .none) (by kernel_rfl) (by kernel_rfl) (by kernel_rfl) (bin1 (fun u0 => by kernel_rfl))
theorem fx150 (g : GO G) : FX G 150 ["n"] (st 24) := fx_of g (q := "whole_text") (m := "vectorcove.numtext") (mi := 355) (c := 149) (d := .none) (by kernel_rfl) (by kernel_rfl) (by kernel_rfl) (bin1 (fun u0 => by kernel_rfl))
theorem fx157 (g : GO G) : FX G 157 ["x"] (st 25) := fx_of g (q := "special_text") (m := "vectorcove.numtext") (mi := 355) (c := 156) (d := .none) (by kernel_rfl) (by kernel_rfl) (by kernel_rfl) (bin1 (fun u0 => by kernel_rfl))
theorem fx164 (g : GO G) : FX G 164 ["x", "e", "digits"] (st 26) := fx_of g (q := "scaled") (m := "vectorcove.numtext") (mi := 355) (c := 163) (d := .none) (by kernel_rfl) (by kernel_rfl) (by kernel_rfl) (bin3 (fun u0 u1 u2 => by kernel_rfl))
theorem fx171 (g : GO G) : FX G 171 ["x", "digits"] (st 27) := fx_of g (q := "significant") (m := "vectorcove.numtext") (mi := 355) (c := 170) (d := .none) (by kernel_rfl) (by kernel_rfl) (by kernel_rfl) (bin2 (fun u0 u1 => by kernel_rfl))
theorem fx178 (g : GO G) : FX G 178 ["text"] (st 28) := fx_of g (q := "without_tail") (m := "vectorcove.numtext") (mi := 355) (c := 177) (d := .none) (by kernel_rfl) (by kernel_rfl) (by kernel_rfl) (bin1 (fun u0 => by kernel_rfl))
theorem fx192 (g : GO G) : FX G 192 ["x", "places"] (st 30) := fx_of g (q := "fixed_text") (m := "vectorcove.numtext") (mi := 355) (c := 191) (d := .none) (by kernel_rfl) (by kernel_rfl) (by kernel_rfl) (bin2 (fun u0 u1 => by kernel_rfl))
theorem fx199 (g : GO G) : FX G 199 ["x", "digits"] (st 31) := fx_of g (q := "measures") (m := "vectorcove.numtext") (mi := 355) (c := 198) (d := .none) (by kernel_rfl) (by kernel_rfl) (by kernel_rfl) (bin2 (fun u0 u1 => by kernel_rfl))
theorem fx206 (g : GO G) : FX G 206 ["xs", "digits"] (st 32) := fx_of g (q := "chosen_form") (m := "vectorcove.numtext") (mi := 355) (c := 205) (d := .none) (by kernel_rfl) (by kernel_rfl) (by kernel_rfl) (bin2 (fun u0 u1 => by kernel_rfl))
theorem fx213 (g : GO G) : FX G 213 ["x", "form"] (st 33) := fx_of g (q := "formed") (m := "vectorcove.numtext") (mi := 355) (c := 212) (d := .none) (by kernel_rfl) (by kernel_rfl) (by kernel_rfl) (bin2 (fun u0 u1 => by kernel_rfl))
theorem fx218 (g : GO G) : FX G 218 ["xs", "digits"] (st 34) := fx_of g (q := "common_texts") (m := "vectorcove.numtext") (mi := 355) (c := 217) (d := .none) (by kernel_rfl) (by kernel_rfl) (by kernel_rfl) (bin2 (fun u0 u1 => by kernel_rfl))
theorem fx282 (g : GO G) : FX G 282 ["self"] (mth 43 0) := fx_of g (q := "Null.__init__") (m := "vectorcove.values") (mi := 548) (c := 281) (d := .none) (by kernel_rfl) (by kernel_rfl) (by kernel_rfl) (bin1 (fun u0 => by kernel_rfl))
theorem fx325 (g : GO G) : FX G 325 [] (st 45) := fx_of g (q := "null") (m := "vectorcove.values") (mi := 548) (c := 324) (d := .none) (by kernel_rfl) (by kernel_rfl) (by kernel_rfl) (bin0 (by kernel_rfl))
theorem fx332 (g : GO G) : FX G 332 ["items"] (st 46) := fx_of g (q := "character") (m := "vectorcove.values") (mi := 548) (c := 331) (d := .none) (by kernel_rfl) (by kernel_rfl) (by kernel_rfl) (bin1 (fun u0 => by kernel_rfl))
theorem fx339 (g : GO G) : FX G 339 ["v", "names"] (st 47) := fx_of g (q := "named") (m := "vectorcove.values") (mi := 548) (c := 338) (d := .none) (by kernel_rfl) (by kernel_rfl) (by kernel_rfl) (bin2 (fun u0 u1 => by kernel_rfl))
theorem fx353 (g : GO G) : FX G 353 ["v"] (st 49) := fx_of g (q := "is_vector") (m := "vectorcove.values") (mi := 548) (c := 352) (d := .none) (by kernel_rfl) (by kernel_rfl) (by kernel_rfl) (bin1 (fun u0 => by kernel_rfl))
theorem fx367 (g : GO G) : FX G 367 ["v"] (st 51) := fx_of g (q := "share") (m := "vectorcove.values") (mi := 548) (c := 366) (d := .none) (by kernel_rfl) (by kernel_rfl) (by kernel_rfl) (bin1 (fun u0 => by kernel_rfl))
theorem fx374 (g : GO G) : FX G 374 ["kind"] (st 54) := fx_of g (q := "kind_order") (m := "vectorcove.coerce") (mi := 671) (c := 373) (d := .none) (by kernel_rfl) (by kernel_rfl) (by kernel_rfl) (bin1 (fun u0 => by kernel_rfl))
theorem fx381 (g : GO G) : FX G 381 ["kinds"] (st 55) := fx_of g (q := "common_kind") (m := "vectorcove.coerce") (mi := 671) (c := 380) (d := .none) (by kernel_rfl) (by kernel_rfl) (by kernel_rfl) (bin1 (fun u0 => by kernel_rfl))
theorem fx423 (g : GO G) : FX G 423 ["kind", "item", "notes"] (st 61) := fx_of g (q := "to_integer") (m := "vectorcove.coerce") (mi := 671) (c := 422) (d := .none) (by kernel_rfl) (by kernel_rfl) (by kernel_rfl) (bin3 (fun u0 u1 u2 => by kernel_rfl))
theorem fx430 (g : GO G) : FX G 430 ["kind", "item", "notes"] (st 62) := fx_of g (q := "to_double") (m := "vectorcove.coerce") (mi := 671) (c := 429) (d := .none) (by kernel_rfl) (by kernel_rfl) (by kernel_rfl) (bin3 (fun u0 u1 u2 => by kernel_rfl))
theorem fx437 (g : GO G) : FX G 437 ["kind", "item"] (st 63) := fx_of g (q := "to_text") (m := "vectorcove.coerce") (mi := 671) (c := 436) (d := .none) (by kernel_rfl) (by kernel_rfl) (by kernel_rfl) (bin2 (fun u0 u1 => by kernel_rfl))
theorem fx444 (g : GO G) : FX G 444 ["kind", "item", "to", "notes"] (st 64) := fx_of g (q := "item_as") (m := "vectorcove.coerce") (mi := 671) (c := 443) (d := .none) (by kernel_rfl) (by kernel_rfl) (by kernel_rfl) (bin4 (fun u0 u1 u2 u3 => by kernel_rfl))
theorem fx451 (g : GO G) : FX G 451 ["kind"] (st 65) := fx_of g (q := "is_atomic_kind") (m := "vectorcove.coerce") (mi := 671) (c := 450) (d := .none) (by kernel_rfl) (by kernel_rfl) (by kernel_rfl) (bin1 (fun u0 => by kernel_rfl))
theorem fx477 (g : GO G) : FX G 477 ["v", "names"] (st 69) := fx_of g (q := "with_names") (m := "vectorcove.coerce") (mi := 671) (c := 476) (d := .none) (by kernel_rfl) (by kernel_rfl) (by kernel_rfl) (bin2 (fun u0 u1 => by kernel_rfl))
theorem fx482 (g : GO G) : FX G 482 ["v", "kind", "notes"] (st 70) := fx_of g (q := "as_kind") (m := "vectorcove.coerce") (mi := 671) (c := 481) (d := .none) (by kernel_rfl) (by kernel_rfl) (by kernel_rfl) (bin3 (fun u0 u1 u2 => by kernel_rfl))
theorem fx496 (g : GO G) : FX G 496 ["self"] (mth 72 0) := fx_of g (q := "NameRow.__init__") (m := "vectorcove.combine") (mi := 816) (c := 495) (d := .none) (by kernel_rfl) (by kernel_rfl) (by kernel_rfl) (bin1 (fun u0 => by kernel_rfl))
theorem fx510 (g : GO G) : FX G 510 ["v", "recurse"] (st 73) := fx_of g (q := "opens") (m := "vectorcove.combine") (mi := 816) (c := 509) (d := .none) (by kernel_rfl) (by kernel_rfl) (by kernel_rfl) (bin2 (fun u0 u1 => by kernel_rfl))
theorem fx517 (g : GO G) : FX G 517 ["v", "recurse"] (st 74) := fx_of g (q := "count_leaves") (m := "vectorcove.combine") (mi := 816) (c := 516) (d := .none) (by kernel_rfl) (by kernel_rfl) (by kernel_rfl) (bin2 (fun u0 u1 => by kernel_rfl))
theorem fx524 (g : GO G) : FX G 524 ["base", "tag"] (st 75) := fx_of g (q := "joined_base") (m := "vectorcove.combine") (mi := 816) (c := 523) (d := .none) (by kernel_rfl) (by kernel_rfl) (by kernel_rfl) (bin2 (fun u0 u1 => by kernel_rfl))
theorem fx531 (g : GO G) : FX G 531 ["base", "name", "row"] (st 76) := fx_of g (q := "leaf_name") (m := "vectorcove.combine") (mi := 816) (c := 530) (d := .none) (by kernel_rfl) (by kernel_rfl) (by kernel_rfl) (bin3 (fun u0 u1 u2 => by kernel_rfl))
theorem fx536 (g : GO G) : FX G 536 ["v"] (st 77) := fx_of g (q := "plain_names") (m := "vectorcove.combine") (mi := 816) (c := 535) (d := .none) (by kernel_rfl) (by kernel_rfl) (by kernel_rfl) (bin1 (fun u0 => by kernel_rfl))
theorem fx543 (g : GO G) : FX G 543 ["v", "base", "tag", "recurse", "row"] (st 78) := fx_of g (q := "extract_names") (m := "vectorcove.combine") (mi := 816) (c := 542) (d := .none) (by kernel_rfl) (by kernel_rfl) (by kernel_rfl) (bin5 (fun u0 u1 u2 u3 u4 => by kernel_rfl))
theorem fx550 (g : GO G) : FX G 550 ["v", "recurse"] (st 79) := fx_of g (q := "has_names") (m := "vectorcove.combine") (mi := 816) (c := 549) (d := .none) (by kernel_rfl) (by kernel_rfl) (by kernel_rfl) (bin2 (fun u0 u1 => by kernel_rfl))
theorem fx557 (g : GO G) : FX G 557 ["args", "recurse"] (st 80) := fx_of g (q := "joined_names") (m := "vectorcove.combine") (mi := 816) (c := 556) (d := .none) (by kernel_rfl) (by kernel_rfl) (by kernel_rfl) (bin2 (fun u0 u1 => by kernel_rfl))
theorem fx564 (g : GO G) : FX G 564 ["v", "recurse", "parts"] (st 81) := fx_of g (q := "gather") (m := "vectorcove.combine") (mi := 816) (c := 563) (d := .none) (by kernel_rfl) (by kernel_rfl) (by kernel_rfl) (bin3 (fun u0 u1 u2 => by kernel_rfl))
theorem fx571 (g : GO G) : FX G 571 ["part", "kind"] (st 82) := fx_of g (q := "part_items") (m := "vectorcove.combine") (mi := 816) (c := 570) (d := .none) (by kernel_rfl) (by kernel_rfl) (by kernel_rfl) (bin2 (fun u0 u1 => by kernel_rfl))
theorem fx576 (g : GO G) : FX G 576 ["args", "recurse", "use_names"] (st 83) := fx_of g (q := "combine") (m := "vectorcove.combine") (mi := 816) (c := 575) (d := .none) (by kernel_rfl) (by kernel_rfl) (by kernel_rfl) (bin3 (fun u0 u1 u2 => by kernel_rfl))
theorem fx583 (g : GO G) : FX G 583 ["v", "use_names"] (st 84) := fx_of g (q := "unlisted") (m := "vectorcove.combine") (mi := 816) (c := 582) (d := .none) (by kernel_rfl) (by kernel_rfl) (by kernel_rfl) (bin2 (fun u0 u1 => by kernel_rfl))
theorem fx590 (g : GO G) : FX G 590 ["script"] (st 86) := fx_of g (q := "_law_digits") (m := "law_nz0506_01") (mi := 962) (c := 589) (d := .none) (by kernel_rfl) (by kernel_rfl) (by kernel_rfl) (bin1 (fun u0 => by kernel_rfl))
theorem fx597 (g : GO G) : FX G 597 ["row", "most"] (st 87) := fx_of g (q := "_law_draw") (m := "law_nz0506_01") (mi := 962) (c := 596) (d := .none) (by kernel_rfl) (by kernel_rfl) (by kernel_rfl) (bin2 (fun u0 u1 => by kernel_rfl))
theorem fx602 (g : GO G) : FX G 602 ["row", "many"] (st 88) := fx_of g (q := "_law_names") (m := "law_nz0506_01") (mi := 962) (c := 601) (d := .none) (by kernel_rfl) (by kernel_rfl) (by kernel_rfl) (bin2 (fun u0 u1 => by kernel_rfl))
theorem fx607 (g : GO G) : FX G 607 ["row", "level"] (st 89) := fx_of g (q := "_law_value") (m := "law_nz0506_01") (mi := 962) (c := 606) (d := .none) (by kernel_rfl) (by kernel_rfl) (by kernel_rfl) (bin2 (fun u0 u1 => by kernel_rfl))
theorem fx612 (g : GO G) : FX G 612 ["piece"] (st 90) := fx_of g (q := "_law_built") (m := "law_nz0506_01") (mi := 962) (c := 611) (d := .none) (by kernel_rfl) (by kernel_rfl) (by kernel_rfl) (bin1 (fun u0 => by kernel_rfl))
theorem fx619 (g : GO G) : FX G 619 ["piece", "tags", "spans", "unfold", "found"] (st 91) := fx_of g (q := "_law_leaves") (m := "law_nz0506_01") (mi := 962) (c := 618) (d := .none) (by kernel_rfl) (by kernel_rfl) (by kernel_rfl) (bin5 (fun u0 u1 u2 u3 u4 => by kernel_rfl))
theorem fx626 (g : GO G) : FX G 626 ["kind", "item"] (st 92) := fx_of g (q := "_law_text") (m := "law_nz0506_01") (mi := 962) (c := 625) (d := .none) (by kernel_rfl) (by kernel_rfl) (by kernel_rfl) (bin2 (fun u0 u1 => by kernel_rfl))
theorem fx633 (g : GO G) : FX G 633 ["kind", "item", "to"] (st 93) := fx_of g (q := "_law_as") (m := "law_nz0506_01") (mi := 962) (c := 632) (d := .none) (by kernel_rfl) (by kernel_rfl) (by kernel_rfl) (bin3 (fun u0 u1 u2 => by kernel_rfl))
theorem fx638 (g : GO G) : FX G 638 ["piece", "unfold"] (st 94) := fx_of g (q := "_law_kinds") (m := "law_nz0506_01") (mi := 962) (c := 637) (d := .none) (by kernel_rfl) (by kernel_rfl) (by kernel_rfl) (bin2 (fun u0 u1 => by kernel_rfl))
theorem fx643 (g : GO G) : FX G 643 ["piece", "unfold"] (st 95) := fx_of g (q := "_law_has") (m := "law_nz0506_01") (mi := 962) (c := 642) (d := .none) (by kernel_rfl) (by kernel_rfl) (by kernel_rfl) (bin2 (fun u0 u1 => by kernel_rfl))
theorem fx650 (g : GO G) : FX G 650 ["leaf", "at"] (st 96) := fx_of g (q := "_law_name") (m := "law_nz0506_01") (mi := 962) (c := 649) (d := .none) (by kernel_rfl) (by kernel_rfl) (by kernel_rfl) (bin2 (fun u0 u1 => by kernel_rfl))
theorem fx655 (g : GO G) : FX G 655 ["one", "two"] (st 97) := fx_of g (q := "_law_same") (m := "law_nz0506_01") (mi := 962) (c := 654) (d := .none) (by kernel_rfl) (by kernel_rfl) (by kernel_rfl) (bin2 (fun u0 u1 => by kernel_rfl))
theorem fx660 (g : GO G) : FX G 660 ["pairs", "unfold", "wanted"] (st 98) := fx_of g (q := "_law_due") (m := "law_nz0506_01") (mi := 962) (c := 659) (d := .none) (by kernel_rfl) (by kernel_rfl) (by kernel_rfl) (bin3 (fun u0 u1 u2 => by kernel_rfl))
theorem fx667 (g : GO G) : FX G 667 ["told", "due"] (st 99) := fx_of g (q := "_law_alike") (m := "law_nz0506_01") (mi := 962) (c := 666) (d := .none) (by kernel_rfl) (by kernel_rfl) (by kernel_rfl) (bin2 (fun u0 u1 => by kernel_rfl))
theorem fx672 (g : GO G) : FX G 672 ["script"] (st 100) := fx_of g (q := "law") (m := "law_nz0506_01") (mi := 962) (c := 671) (d := .none) (by kernel_rfl) (by kernel_rfl) (by kernel_rfl) (bin1 (fun u0 => by kernel_rfl))
end
end Mine
namespace Mine
/-! parts of the abstract heap -/
noncomputable def Le (F F' : AH) : Prop := ∀ a o, F a = some o → F' a = some o
theorem Le.refl (F : AH) : Le F F := fun _ _ e => e
theorem Le.trans {F F' F'' : AH} (h : Le F F') (k : Le F' F'') : Le F F'' := fun a o e => k a o (h a o e)
/-- the objects of S may be changed, all others stay -/
noncomputable def Keep (S : List Addr) (H H' : AH) : Prop := ∀ a o, a ∉ S → H a = some o → H' a = some o
theorem Keep.refl {S : List Addr} {H : AH} : Keep S H H := fun _ _ _ e => e
theorem Keep.trans {S : List Addr} {H H' H'' : AH} (h : Keep S H H') (k : Keep S H' H'') : Keep S H H'' := fun a o n e => k a o n (h a o n e)
theorem Keep.mono {S T : List Addr} {H H' : AH} (h : Keep S H H') (k : ∀ a ∈ S, a ∈ T) : Keep T H H' := fun a o n e => h a o (fun q => n (k a q)) e
theorem Keep.pure {S : List Addr} {H H' : AH} (h : Keep [] H H') : Keep S H H' := h.mono fun _ q => nomatch q
theorem Keep.new {S : List Addr} {H H' : AH} {a : Addr} {o : AObj} (h : Keep S H H') (f : H' a = none) : Keep S H (upd H' a o) := fun b ob n e => by
  have := h b ob n e
  rw [upd_ne _ _ (fun q => by rw [q, f] at this; cases this)]; exact this
theorem Keep.at {S : List Addr} {H H' : AH} {a : Addr} {o : AObj} (h : Keep S H H') (f : a ∈ S) : Keep S H (upd H' a o) := fun b ob n e => by
  rw [upd_ne _ _ (fun q : b = a => n (by rw [q]; exact f))]; exact h b ob n e
/-- an object that is new since H may be changed -/
theorem Keep.own {S : List Addr} {H H' : AH} {a : Addr} {o : AObj} (h : Keep S H H') (f : H a = none) : Keep S H (upd H' a o) := fun b ob n e => by
  rw [upd_ne _ _ (fun q => by rw [q, f] at e; cases e)]; exact h b ob n e
theorem Keep.then {S T : List Addr} {H H' H'' : AH} (h : Keep S H H') (k : Keep T H' H'') (m : ∀ a ∈ T, a ∈ S ∨ H a = none) : Keep S H H'' := fun a o n e => k a o (fun q => (m a q).elim n fun z => by rw [z] at e; cases e) (h a o n e)
theorem Keep.le {H H' : AH} (h : Keep [] H H') : Le H H' := fun a o e => h a o (fun q => nomatch q) e
theorem Keep.get {S : List Addr} {H H' : AH} {a : Addr} {o : AObj} (h : Keep S H H') (e : H a = some o) (n : a ∉ S) : H' a = some o := h a o n e
/-- the frozen part -/
noncomputable def cut (H : AH) (S : List Addr) : AH := fun a => if a ∈ S then none else H a
theorem cut_le (H : AH) (S : List Addr) : Le (cut H S) H := fun a o e => by unfold cut at e; split at e; cases e; exact e
theorem cut_keep {S : List Addr} {H H' : AH} (h : Keep S H H') : Le (cut H S) (cut H' S) := fun a o e => by
  unfold cut at e ⊢
  split at e
  · cases e
  · rename_i n; rw [if_neg n]; exact h a o n e
theorem cut_sub {S T : List Addr} {H : AH} (k : ∀ a ∈ S, a ∈ T) : Le (cut H T) (cut H S) := fun a o e => by
  unfold cut at e ⊢
  split at e
  · cases e
  · rename_i n; rw [if_neg (fun q => n (k a q))]; exact e
theorem cut_at {S : List Addr} {H : AH} {a : Addr} {o : AObj} (e : H a = some o) (n : a ∉ S) : cut H S a = some o := by unfold cut; rw [if_neg n]; exact e
theorem cut_nil (H : AH) : cut H [] = H := by funext a; unfold cut; simp
theorem cut_cons {S : List Addr} {H : AH} {a : Addr} (n : H a = none) : Le (cut H S) (cut H (a :: S)) := fun b o e => by
  unfold cut at e ⊢
  split at e
  · cases e
  · rename_i m
    rw [if_neg]; exact e
    intro q
    rcases List.mem_cons.mp q with q | q
    · rw [q, n] at e; cases e
    · exact m q
/-- S stands in H -/
noncomputable def Alive (S : List Addr) (H : AH) : Prop := ∀ a ∈ S, H a ≠ none
theorem Alive.nin {S : List Addr} {H : AH} {a : Addr} (h : Alive S H) (n : H a = none) : a ∉ S := fun q => h a q n
theorem Alive.nil {H : AH} : Alive [] H := fun _ q => nomatch q
theorem Alive.cons {S : List Addr} {H : AH} {a : Addr} {o : AObj} (h : Alive S H) (e : H a = some o) : Alive (a :: S) H := fun b q => by
  rcases List.mem_cons.mp q with rfl | q
  · rw [e]; exact Option.some_ne_none _
  · exact h b q
theorem Alive.upd {S : List Addr} {H : AH} {a : Addr} {o : AObj} (h : Alive S H) : Alive S (upd H a o) := fun b q => by
  by_cases z : b = a
  · rw [z, upd_same]; exact Option.some_ne_none _
  · rw [upd_ne _ _ z]; exact h b q
theorem Alive.keep {S T : List Addr} {H H' : AH} (h : Alive S H) (k : Keep T H H') (m : ∀ a ∈ T, H' a ≠ none) : Alive S H' := fun b q => by
  by_cases z : b ∈ T
  · exact m b z
  · cases e : H b with
    | none => exact absurd e (h b q)
    | some o => rw [k b o z e]; exact Option.some_ne_none _
theorem Alive.pure {S : List Addr} {H H' : AH} (h : Alive S H) (k : Keep [] H H') : Alive S H' := h.keep k fun _ q => nomatch q
/-! values of the law -/
noncomputable def ostr : Option Str → AV
  | none => .none
  | some s => .str s
/-- a vector object, its parts -/
structure IsVec (F : AH) (x : Addr) (k : Str) (i : Addr) (av : AV) : Prop where
  ex : ∃ d b c, F x = some (.inst 314 d) ∧ F d = some (.dict [(Str.ofString "kind", .str k), (Str.ofString "items", .ref i), (Str.ofString "attrs", av), (Str.ofString "shared", .bool b), (Str.ofString "loose", .bool c)])
structure IsNull (F : AH) (x : Addr) : Prop where
  ex : ∃ d, F x = some (.inst 285 d) ∧ F d = some (.dict [(Str.ofString "kind", .str (Str.ofString "NULL")), (Str.ofString "attrs", .none)])
theorem IsVec.mono {F F' : AH} {x i : Addr} {k : Str} {av : AV} (h : IsVec F x k i av) (l : Le F F') : IsVec F' x k i av := let ⟨d, b, c, e1, e2⟩ := h.ex; ⟨d, b, c, l _ _ e1, l _ _ e2⟩
theorem IsNull.mono {F F' : AH} {x : Addr} (h : IsNull F x) (l : Le F F') : IsNull F' x := let ⟨d, e1, e2⟩ := h.ex; ⟨d, l _ _ e1, l _ _ e2⟩
/-- the names as they stand under attrs -/
inductive RN (F : AH) : Option (List (Option Str)) → AV → Prop
  | none : RN F none .none
  | some {nm : List (Option Str)} {a y l : Addr} (h : F a = some (.dict [(Str.ofString "names", .ref y)])) (v : IsVec F y (Str.ofString "character") l .none) (e : F l = some (.list (nm.map ostr))) : RN F (some nm) (.ref a)
theorem RN.mono {F F' : AH} {nm} {a : AV} (h : RN F nm a) (l : Le F F') : RN F' nm a := by
  cases h with
  | none => exact .none
  | some h v e => exact .some (l _ _ h) (v.mono l) (l _ _ e)
set_option autoImplicit false
inductive RV (F : AH) : Vv → AV → Prop
  | none : RV F .none .none
  | int (i : Int) : RV F (.int i) (.int i)
  | str (s : Str) : RV F (.str s) (.str s)
  | dbl {n d : Int} {a : Addr} (h : F a = some (.tup [.int n, .int d])) : RV F (.dbl n d) (.ref a)
  | null {x : Addr} (h : IsNull F x) : RV F .null (.ref x)
  | vec {k : Kd} {xs : List Vv} {nm : Option (List (Option Str))} {x i : Addr} {av : AV} {avs : List AV} (h : IsVec F x k.s i av) (e : F i = some (.list avs)) (r : RN F nm av) (hl : xs.length = avs.length)
      (hx : ∀ (j : Nat) v a, xs[j]? = some v → avs[j]? = some a → RV F v a) : RV F (.vec k xs nm) (.ref x)
theorem RV.mono {F F' : AH} (l : Le F F') {v : Vv} {a : AV} (h : RV F v a) : RV F' v a := by
  induction h with
  | none => exact .none
  | int i => exact .int i
  | str s => exact .str s
  | dbl h => exact .dbl (l _ _ h)
  | null h => exact .null (h.mono l)
  | vec h e r hl hx ih => exact .vec (h.mono l) (l _ _ e) (r.mono l) hl ih
/-- many at once -/
noncomputable def RVs (F : AH) (xs : List Vv) (as : List AV) : Prop := xs.length = as.length ∧ ∀ (j : Nat) v a, xs[j]? = some v → as[j]? = some a → RV F v a
theorem RVs.mono {F F' : AH} (l : Le F F') {xs : List Vv} {as : List AV} (h : RVs F xs as) : RVs F' xs as := ⟨h.1, fun j v a e1 e2 => (h.2 j v a e1 e2).mono l⟩
theorem RVs.nil {F : AH} : RVs F [] [] := ⟨rfl, fun j v a e => by simp at e⟩
theorem RVs.snoc {F : AH} {xs : List Vv} {as : List AV} {v : Vv} {a : AV} (h : RVs F xs as) (r : RV F v a) : RVs F (xs ++ [v]) (as ++ [a]) := by
  refine ⟨by simp [h.1], fun j u b e1 e2 => ?_⟩
  by_cases q : j < xs.length
  · rw [List.getElem?_append_left q] at e1
    rw [List.getElem?_append_left (by rw [← h.1]; exact q)] at e2
    exact h.2 j u b e1 e2
  · rw [List.getElem?_append_right (by lia)] at e1
    rw [List.getElem?_append_right (by rw [← h.1]; lia)] at e2
    have e3 : j - xs.length = 0 := by
      rcases Nat.eq_zero_or_pos (j - xs.length) with z | z
      · exact z
      · rw [List.getElem?_eq_none (by simp; lia)] at e1; cases e1
    rw [← h.1, e3] at e2
    rw [e3] at e1
    simp at e1 e2
    subst e1; subst e2; exact r
theorem RVs.app {F : AH} {xs ys : List Vv} {as bs : List AV} (h : RVs F xs as) (k : RVs F ys bs) : RVs F (xs ++ ys) (as ++ bs) := by
  refine ⟨by simp [h.1, k.1], fun j u b e1 e2 => ?_⟩
  by_cases q : j < xs.length
  · rw [List.getElem?_append_left q] at e1
    rw [List.getElem?_append_left (by rw [← h.1]; exact q)] at e2
    exact h.2 j u b e1 e2
  · rw [List.getElem?_append_right (by lia)] at e1
    rw [List.getElem?_append_right (by rw [← h.1]; lia), ← h.1] at e2
    exact k.2 _ u b e1 e2
theorem RVs.at {F : AH} {xs : List Vv} {as : List AV} {j : Nat} {v : Vv} (h : RVs F xs as) (e : xs[j]? = some v) : ∃ a, as[j]? = some a ∧ RV F v a := by
  have hj : j < as.length := by
    rw [← h.1]
    rcases Nat.lt_or_ge j xs.length with q | q
    · exact q
    · rw [List.getElem?_eq_none q] at e; cases e
  exact ⟨as[j], List.getElem?_eq_getElem hj, h.2 j v _ e (List.getElem?_eq_getElem hj)⟩
theorem RVs.at' {F : AH} {xs : List Vv} {as : List AV} {j : Nat} {a : AV} (h : RVs F xs as) (e : as[j]? = some a) : ∃ v, xs[j]? = some v ∧ RV F v a := by
  have hj : j < xs.length := by
    rw [h.1]
    rcases Nat.lt_or_ge j as.length with q | q
    · exact q
    · rw [List.getElem?_eq_none q] at e; cases e
  exact ⟨xs[j], List.getElem?_eq_getElem hj, h.2 j _ a (List.getElem?_eq_getElem hj) e⟩
/-- the names in a piece -/
inductive RPN (F : AH) : Option (List (Option Str)) → AV → Prop
  | none : RPN F none .none
  | some {nm : List (Option Str)} {l : Addr} (e : F l = some (.list (nm.map ostr))) : RPN F (some nm) (.ref l)
theorem RPN.mono {F F' : AH} {nm} {a : AV} (h : RPN F nm a) (l : Le F F') : RPN F' nm a := by
  cases h with
  | none => exact .none
  | some e => exact .some (l _ _ e)
/-- a piece -/
inductive RP (F : AH) : Vv → AV → Prop
  | null {x i : Addr} (h : F x = some (.list [.str (Str.ofString "NULL"), .ref i, .none])) (e : F i = some (.list [])) : RP F .null (.ref x)
  | vec {k : Kd} {xs : List Vv} {nm : Option (List (Option Str))} {x i : Addr} {n : AV} {avs : List AV} (hk : k ≠ .ls) (h : F x = some (.list [.str k.s, .ref i, n])) (e : F i = some (.list avs)) (r : RPN F nm n) (hx : RVs F xs avs) : RP F (.vec k xs nm) (.ref x)
  | list {xs : List Vv} {nm : Option (List (Option Str))} {x i : Addr} {n : AV} {avs : List AV} (h : F x = some (.list [.str (Str.ofString "list"), .ref i, n])) (e : F i = some (.list avs)) (r : RPN F nm n) (hl : xs.length = avs.length)
      (hx : ∀ (j : Nat) v a, xs[j]? = some v → avs[j]? = some a → RP F v a) : RP F (.vec .ls xs nm) (.ref x)
theorem RP.mono {F F' : AH} (l : Le F F') {v : Vv} {a : AV} (h : RP F v a) : RP F' v a := by
  induction h with
  | null h e => exact .null (l _ _ h) (l _ _ e)
  | vec hk h e r hx => exact .vec hk (l _ _ h) (l _ _ e) (r.mono l) (hx.mono l)
  | list h e r hl hx ih => exact .list (l _ _ h) (l _ _ e) (r.mono l) hl ih
noncomputable def RPs (F : AH) (xs : List Vv) (as : List AV) : Prop := xs.length = as.length ∧ ∀ (j : Nat) v a, xs[j]? = some v → as[j]? = some a → RP F v a
theorem RPs.mono {F F' : AH} (l : Le F F') {xs : List Vv} {as : List AV} (h : RPs F xs as) : RPs F' xs as := ⟨h.1, fun j v a e1 e2 => (h.2 j v a e1 e2).mono l⟩
end Mine
namespace Mine
section
variable {G : Md} {A : Around} {env : Env} {σ : St} {pos : Pos}
theorem p314 (P : Params) : plainGet (hd.heap_39 P) 314 (Str.ofString "kind") = true := by k_is
theorem q314 (P : Params) : hasDictIn (hd.heap_39 P) 314 = true := by k_is
theorem r314 (P : Params) : findIn (hd.heap_39 P) (.ref 314) (Str.ofString "__setattr__") = some (some (.builtin "object.__setattr__")) := by k_is
theorem s314 (P : Params) : plainOver (hd.heap_39 P) 314 = true := by k_is
theorem p285 (P : Params) : plainGet (hd.heap_39 P) 285 (Str.ofString "kind") = true := by k_is
theorem q285 (P : Params) : hasDictIn (hd.heap_39 P) 285 = true := by k_is
theorem r285 (P : Params) : findIn (hd.heap_39 P) (.ref 285) (Str.ofString "__setattr__") = some (some (.builtin "object.__setattr__")) := by k_is
theorem s285 (P : Params) : plainOver (hd.heap_39 P) 285 = true := by k_is
theorem p499 (P : Params) : plainGet (hd.heap_39 P) 499 (Str.ofString "kind") = true := by k_is
theorem q499 (P : Params) : hasDictIn (hd.heap_39 P) 499 = true := by k_is
theorem r499 (P : Params) : findIn (hd.heap_39 P) (.ref 499) (Str.ofString "__setattr__") = some (some (.builtin "object.__setattr__")) := by k_is
theorem s499 (P : Params) : plainOver (hd.heap_39 P) 499 = true := by k_is
theorem cls314 (g : GO G) {x : Str} (h : findIn (hd.heap_39 G.w.params) (.ref 314) x = some none) : Cls G 314 x := ⟨by rw [g.K]; exact p314 _, by rw [g.K]; exact q314 _, by rw [g.K]; exact h, by rw [g.K]; exact r314 _, by rw [g.K]; exact s314 _⟩
theorem cls285 (g : GO G) {x : Str} (h : findIn (hd.heap_39 G.w.params) (.ref 285) x = some none) : Cls G 285 x := ⟨by rw [g.K]; exact p285 _, by rw [g.K]; exact q285 _, by rw [g.K]; exact h, by rw [g.K]; exact r285 _, by rw [g.K]; exact s285 _⟩
theorem cls499 (g : GO G) {x : Str} (h : findIn (hd.heap_39 G.w.params) (.ref 499) x = some none) : Cls G 499 x := ⟨by rw [g.K]; exact p499 _, by rw [g.K]; exact q499 _, by rw [g.K]; exact h, by rw [g.K]; exact r499 _, by rw [g.K]; exact s499 _⟩
theorem cV_kind (g : GO G) : Cls G 314 (Str.ofString "kind") := cls314 g (by k_is)
theorem cV_items (g : GO G) : Cls G 314 (Str.ofString "items") := cls314 g (by k_is)
theorem cV_attrs (g : GO G) : Cls G 314 (Str.ofString "attrs") := cls314 g (by k_is)
theorem cV_shared (g : GO G) : Cls G 314 (Str.ofString "shared") := cls314 g (by k_is)
theorem cV_loose (g : GO G) : Cls G 314 (Str.ofString "loose") := cls314 g (by k_is)
theorem cN_kind (g : GO G) : Cls G 285 (Str.ofString "kind") := cls285 g (by k_is)
theorem cN_attrs (g : GO G) : Cls G 285 (Str.ofString "attrs") := cls285 g (by k_is)
theorem cR_names (g : GO G) : Cls G 499 (Str.ofString "names") := cls499 g (by k_is)
theorem cR_number (g : GO G) : Cls G 499 (Str.ofString "number") := cls499 g (by k_is)
theorem cR_count (g : GO G) : Cls G 499 (Str.ofString "count") := cls499 g (by k_is)
/-! how the heap grows -/
theorem le_new {F H : AH} {a : Addr} {o : AObj} (h : Le F H) (n : H a = none) : Le F (upd H a o) := fun b ob e => by
  have := h b ob e
  rw [upd_ne _ _ (fun q : b = a => by rw [q, n] at this; cases this)]; exact this
theorem le_at {F H : AH} {a : Addr} {o : AObj} (h : Le F H) (n : F a = none) : Le F (upd H a o) := fun b ob e => by
  rw [upd_ne _ _ (fun q : b = a => by rw [q, n] at e; cases e)]; exact h b ob e
theorem le_pure {F H H' : AH} (h : Le F H) (k : Keep [] H H') : Le F H' := h.trans k.le
theorem le_keep {S : List Addr} {F H H' : AH} (h : Le F H) (k : Keep S H H') (n : ∀ a ∈ S, F a = none) : Le F H' := fun b ob e => k b ob (fun q => by rw [n b q] at e; cases e) (h b ob e)
theorem cut_in {H : AH} {S : List Addr} {a : Addr} (h : a ∈ S) : cut H S a = none := if_pos h
theorem cut_none {H : AH} {S : List Addr} {a : Addr} (h : H a = none) : cut H S a = none := by unfold cut; split <;> first | rfl | exact h
theorem Le.get {F H : AH} {a : Addr} {o : AObj} (h : Le F H) (e : F a = some o) : H a = some o := h a o e
theorem new_get {H : AH} {a b : Addr} {o ob : AObj} (e : H b = some ob) (n : H a = none) : upd H a o b = some ob := (le_new (Le.refl H) n) b ob e
theorem ite_t {P Q : Prop} (h : P) : (if true = true then P else Q) := by rw [if_pos rfl]; exact h
theorem ite_f {P Q : Prop} (h : Q) : (if false = true then P else Q) := by rw [if_neg (by simp)]; exact h
/-! the attributes read -/
theorem vec_kind (g : GO G) {F : AH} {x i : Addr} {k : Str} {av : AV} {Q : AV → St → Prop} (v : IsVec F x k i av) (l : Le F σ.H) (h : Q (.str k) σ) : ATTR G A env (Str.ofString "kind") (.ref x) Q σ :=
  let ⟨d, b, c, e1, e2⟩ := v.ex; attr_get g.gd (l _ _ e1) (l _ _ e2) (cV_kind g) (by simp [List.lookup]) (fun i e => by cases e) h
theorem vec_items (g : GO G) {F : AH} {x i : Addr} {k : Str} {av : AV} {Q : AV → St → Prop} (v : IsVec F x k i av) (l : Le F σ.H) (h : Q (.ref i) σ) : ATTR G A env (Str.ofString "items") (.ref x) Q σ :=
  let ⟨d, b, c, e1, e2⟩ := v.ex; attr_get g.gd (l _ _ e1) (l _ _ e2) (cV_items g) (by simp [List.lookup, ofS_beq]) (fun i e => by cases e) h
theorem vec_attrs (g : GO G) {F : AH} {x i : Addr} {k : Str} {av : AV} {Q : AV → St → Prop} (v : IsVec F x k i av) (l : Le F σ.H) (hb : ∀ i, av ≠ .bi i) (h : Q av σ) : ATTR G A env (Str.ofString "attrs") (.ref x) Q σ :=
  let ⟨d, b, c, e1, e2⟩ := v.ex; attr_get g.gd (l _ _ e1) (l _ _ e2) (cV_attrs g) (by simp [List.lookup, ofS_beq]) hb h
theorem null_kind (g : GO G) {F : AH} {x : Addr} {Q : AV → St → Prop} (v : IsNull F x) (l : Le F σ.H) (h : Q (.str (Str.ofString "NULL")) σ) : ATTR G A env (Str.ofString "kind") (.ref x) Q σ :=
  let ⟨d, e1, e2⟩ := v.ex; attr_get g.gd (l _ _ e1) (l _ _ e2) (cN_kind g) (by simp [List.lookup]) (fun i e => by cases e) h
theorem RN.nbi {F : AH} {nm} {a : AV} (r : RN F nm a) : ∀ i, a ≠ .bi i := fun i e => by subst e; cases r
end
end Mine
namespace Mine
section
variable {G : Md} {A : Around} {env : Env} {σ : St} {pos : Pos} {H : AH}
/-! dicts by str keys, as the library's rules take them -/
theorem isStrOf_abs (x y : Str) (t : Tok) : Value.isStrOf x (.str y t) = decide (y = x) := by
  show (y == x) = _
  rw [Bool.eq_iff_iff]; simp
theorem find_abs {P : Params} (x : Str) : ∀ {ds : List DictEntry} {es : List (Str × AV)}, ds.map absE = es.map (absK P) → (((ds.find? fun e => Value.isStrOf x e.key).map (·.val)).map abs) = es.lookup x
  | [], [], _ => rfl
  | d :: ds, p :: es, e => by
    simp only [List.map_cons, List.cons.injEq] at e
    obtain ⟨t, k1, k2, k3⟩ := absE_key e.1
    have ih := find_abs x e.2
    rw [List.find?_cons, k1, isStrOf_abs, List.lookup_cons]
    by_cases q : p.1 = x
    · subst q; simp [k3]
    · have q' : (x == p.1) = false := by simpa using fun z : x = p.1 => q z.symm
      simp only [q, decide_false, q']
      exact ih
  | [], _ :: _, e => by cases e
  | _ :: _, [], e => by cases e
theorem keys_abs {prog : Program} {w : World} : ∀ {ds : List DictEntry} {es : List (Str × AV)}, ds.map absE = es.map (absK w.params) → ∀ e ∈ ds, ∃ k, (strKind prog w).is k e.key = true ∧ e.hash = (strKind prog w).hash k
  | [], [], _, e, he => nomatch he
  | d :: ds, p :: es, e, e', he => by
    simp only [List.map_cons, List.cons.injEq] at e
    obtain ⟨t, k1, k2, k3⟩ := absE_key e.1
    rcases List.mem_cons.mp he with rfl | he
    · exact ⟨p.1, by rw [k1]; exact strKind_is prog w p.1 t, k2⟩
    · exact keys_abs e.2 e' he
  | [], _ :: _, e, _, _ => by cases e
  | _ :: _, [], e, _, _ => by cases e
theorem HR.mapOf {h : Heap} {d : Addr} {es : List (Str × AV)} (R : HR G H h) (hd : H d = some (.dict es)) : ∃ f, h.MapOf (strKind G.prog G.w) d f ∧ (∀ x, (f x).map abs = es.lookup x) ∧ (d == sysModules) = false := by
  obtain ⟨_, ob, ho, ds, n, rfl, r⟩ := R.obj d _ hd
  refine ⟨fun x => findBy (strKind G.prog G.w).is ds x, ⟨_, ds, n, ho, ⟨rfl, rfl, rfl⟩, rfl, fun e he => keys_abs r e (Array.mem_toList_iff.mpr he), fun k => rfl⟩, fun x => ?_, ?_⟩
  · have := find_abs (P := G.w.params) x r
    rw [← this]
    show ((ds.find? fun e => Value.isStrOf x e.key).map (·.val)).map abs = _
    rw [← Array.find?_toList]
  · have : d ≠ sysModules := fun q => by rw [q, R.mods] at hd; cases hd
    simpa using this
theorem cv_get {d : Addr} {x : Str} {es : List (Str × AV)} {Q : AV → AH → Prop} (hd : H d = some (.dict es)) (h : Q ((es.lookup x).getD .none) H) : CV G A (.builtin "dict.get") [.ref d, .str x] Q H := fun us eu s hs => by
  obtain ⟨u, w, rfl, e1, e2⟩ := us2 eu
  obtain ⟨t, rfl⟩ := abs_str e2
  rw [abs_ref e1]
  obtain ⟨f, hm, hf, lo⟩ := hs.mapOf hd
  refine call_meetsIn PySem.F.slot_dict_get hm.typeIs PySem.F.entry_dict_get (PySem.F.args_dict_get_2 _ _) (meets_dict_get (strKind G.prog G.w) d (strKind_is G.prog G.w x t) lo) ⟨_, hm, tok1 (Q := Q) hs ?_⟩
  have := hf x
  show Q (abs ((f x).getD .none)) H
  have e : abs ((f x).getD .none) = (es.lookup x).getD .none := by rw [← this]; cases f x <;> rfl
  rw [e]; exact h
theorem g_dict {d : Addr} {x : Str} {es : List (Str × AV)} {v : AV} {Q : AV → AH → Prop} (hd : H d = some (.dict es)) (hx : es.lookup x = some v) (h : Q v H) : AT2 G A getItem (.ref d) (.str x) Q H := fun a u ev eu s hs => by
  obtain ⟨t, rfl⟩ := abs_str eu; rw [abs_ref ev]
  obtain ⟨f, hm, hf, lo⟩ := hs.mapOf hd
  have := hf x
  rw [hx] at this
  obtain ⟨r, e1, e2⟩ := Option.map_eq_some_iff.mp this
  exact wpAny_getItem_of (strKind_is G.prog G.w x t) hm e1 (tok1 (Q := Q) hs (by rw [e2]; exact h))
theorem sub_dict {value slice : Expr} {d : Addr} {x : Str} {es : List (Str × AV)} {v : AV} {Q : AV → St → Prop} (ns : NoSl slice) (hd : σ.H d = some (.dict es)) (hx : es.lookup x = some v) (h : Q v σ) : SUB G A env value slice (.ref d) (.str x) Q σ := fun a u ev eu s hs => by
  obtain ⟨f, hm, hf, lo⟩ := hs.hr.mapOf hd
  have T : s.TypeIs a "dict" := by rw [abs_ref ev]; exact hm.typeIs
  exact tail_any T slot_dict_getitem.lookup (WF.of_WT (Q := fun r σ' => Q (abs r) σ') (g_dict (Q := fun v H' => Q v ⟨H', σ.m⟩) hd hx h a u ev eu) s hs) (ns a u)
/-- a dict display of one pair, its key a str -/
theorem we_Dict1 {kx : Str} {kk : Nat} {kp : Pos} {ve : Expr} {Q : AV → St → Prop}
    (h : ∀ d, σ.H d = none → WE G A env ve (fun v σ₁ => σ₁.H d = some (.dict []) ∧ Q (.ref d) ⟨upd σ₁.H d (.dict [(kx, v)]), σ₁.m⟩) ⟨upd σ.H d (.dict []), σ.m⟩) :
    WE G A env (.Dict [some (.Constant (.str kx) kk kp)] [ve] pos) Q σ := fun s hs => by
  obtain ⟨S1, n1⟩ := hs.hr.upd_push (o := .dict []) (ob := { cls := .type "dict", data := .dict #[] }) ⟨#[], 0, rfl, rfl⟩
  refine wpAny_Dict_pairs (knd := strKind G.prog G.w) (pairs := [(eval (.Constant (.str kx) kk kp) env, do let x ← eval ve env; standAt pos; pure x)]) (by rfl) (by simp) (by simp) ?_
  have F1 := S1.toF hs
  unfold evalPairs
  refine wpAny_bind (Calls.Constant_str (s := { s with heap := _ }) ?_)
  refine wpAny_bind (wpAny_holding (wpAny_bind ?_))
  have w := h _ n1
  refine wpAny_mono (w { s with heap := s.heap.push { cls := .type "dict", data := .dict #[] }, toks := s.toks + 1 } F1.rel) (fun v s₂ ⟨σ₂, F2, X2, hd, hq⟩ => ?_) fun _ _ e => e.elim
  refine wpAny_bind (wpAny_standAt (wpAny_pure ?_))
  refine wpAny_bind (wpAny_holding ?_)
  unfold evalPairs
  refine wpAny_pure (wpAny_pure ?_)
  obtain ⟨_, ob, ho, ds, n, rfl, r⟩ := F2.rel.hr.obj _ _ hd
  have hds : ds = #[] := by
    have : ds.toList = [] := by simpa using r
    exact Array.toList_inj.mp (by simpa using this)
  subst hds
  refine ⟨[(kx, v)], ⟨strKind_is G.prog G.w kx _, rfl, trivial⟩, ⟨_, #[], n, ho, ⟨rfl, rfl, rfl⟩, rfl, fun e he => by simp at he, .nil, by simp⟩, fun h' hD sb => ?_⟩
  obtain ⟨o, es, ep, ho', ⟨c1, c2, c3⟩, hdat, hks, hp, _⟩ := hD
  have em : merged ([] : List (Str × Value)) [(kx, v)] = [(kx, v)] := rfl
  rw [em] at hp
  obtain ⟨l⟩ := es
  change Pairs (strKind G.prog G.w) l [(kx, v)] at hp
  cases hp with
  | cons hk hv hr =>
    rename_i e r
    cases hr
    obtain ⟨t, ek⟩ := Value.isStrOf_shape hk
    obtain ⟨k', hk', hh⟩ := hks e (by simp)
    have ekk : k' = kx := (strKind G.prog G.w).inj _ _ _ hk' hk
    subst ekk
    have rel : ORel G.w.params (.dict [(k', abs v)]) o := by
      obtain ⟨cl, dd, dt, sl⟩ := o
      dsimp only at c1 c2 c3 hdat
      subst c1; subst c2; subst c3; subst hdat
      refine ⟨_, _, rfl, ?_⟩
      dsimp only at hv
      have : absE e = absK G.w.params (k', abs v) := by
        unfold absE absK
        rw [ek, hv, hh]; rfl
      simp [this]
    have U := F2.rel.hr.upd_at (o := .dict [(k', abs v)]) hd ho' rel sb
    exact ⟨_, FStep.trans (FStep.trans F1 F2 hs) (U.toF F2.rel) hs, (show SS s _ from ⟨rfl, rfl, rfl⟩ : SS s { s with heap := s.heap.push { cls := .type "dict", data := .dict #[] }, toks := s.toks + 1 }).trans (X2.trans ⟨rfl, rfl, rfl⟩), hq⟩
end
end Mine
namespace Mine
/-- the type of a value, by the abstract heap -/
inductive HasT (H : AH) : AV → String → Prop
  | list {a : Addr} {xs : List AV} (h : H a = some (.list xs)) : HasT H (.ref a) "list"
  | tup {a : Addr} {xs : List AV} (h : H a = some (.tup xs)) : HasT H (.ref a) "tuple"
  | dict {a : Addr} {es : List (Str × AV)} (h : H a = some (.dict es)) : HasT H (.ref a) "dict"
  | str (x : Str) : HasT H (.str x) "str"
section
variable {G : Md} {A : Around} {env : Env} {σ : St} {pos : Pos} {H : AH}
theorem HasT.is {s : Shared} {v : Value} {T : String} (h : HasT H (abs v) T) (R : HR G H s.heap) : s.TypeIs v T ∧ ∀ a, v = .ref a → ∃ ob, s.heap.get? a = some ob ∧ ob.dict = none := by
  generalize e : abs v = av at h
  cases h with
  | list h =>
    obtain ⟨_, ob, ho, vs, n, rfl, _⟩ := R.obj _ _ h
    rw [abs_ref e]
    exact ⟨⟨_, ho, rfl⟩, fun a ea => by cases ea; exact ⟨_, ho, rfl⟩⟩
  | tup h =>
    obtain ⟨_, ob, ho, vs, n, rfl, _⟩ := R.obj _ _ h
    rw [abs_ref e]
    exact ⟨⟨_, ho, rfl⟩, fun a ea => by cases ea; exact ⟨_, ho, rfl⟩⟩
  | dict h =>
    obtain ⟨_, ob, ho, vs, n, rfl, _⟩ := R.obj _ _ h
    rw [abs_ref e]
    exact ⟨⟨_, ho, rfl⟩, fun a ea => by cases ea; exact ⟨_, ho, rfl⟩⟩
  | str x =>
    obtain ⟨t, rfl⟩ := abs_str e
    exact ⟨rfl, fun a ea => by cases ea⟩
theorem we_meth {o : Expr} {name : Str} {apos : Pos} {args : List Expr} {T id : String} {Q : AV → St → Prop} (pa : PlainAttrs T) (slot : Slot T name id) (hty : typeOf (.builtin id) = pure (.type "method_descriptor")) (m : Mth env o name apos pos args) (ns : NoSt env pos args)
    (h : WE G A env o (fun ov σ₁ => HasT σ₁.H ov T ∧ WL G A env pos args (kcons ov (kcv G A (.builtin id) Q)) σ₁) σ) : WE G A env (.Call (.Attribute o name apos) args [] pos) Q σ := fun s hs =>
  wpAny_Call_method m.base m.few m.line pa slot hty (WF.go0 hs h fun ov s₁ σ₁ S₁ X₁ ⟨ht, h₁⟩ => by
    obtain ⟨t1, t2⟩ := ht.is S₁.rel.hr
    refine ⟨t1, t2, ?_⟩
    refine Calls.callWith_builtin ns (evalArgs_l ns (WF.go hs S₁ X₁ h₁ fun vs s₂ σ₂ S₂ X₂ h₂ => ?_))
    exact WF.after hs S₂ X₂ (WF.of_WT (Q := fun r σ' => Q (abs r) σ') (h₂ (ov :: vs) rfl)))
theorem strs_abs : ∀ {vs : List Value} {xs : List Str}, vs.map abs = xs.map AV.str → StrsAre vs xs
  | [], [], _ => .nil
  | v :: vs, x :: xs, e => by
    simp only [List.map_cons, List.cons.injEq] at e
    obtain ⟨t, rfl⟩ := abs_str e.1
    exact .cons x t (strs_abs e.2)
  | [], _ :: _, e => by cases e
  | _ :: _, [], e => by cases e
theorem cv_join {sep : Str} {l : Addr} {xs : List Str} {Q : AV → AH → Prop} (hl : H l = some (.list (xs.map .str))) (hok : (xs.map (·.length)).sum + xs.length * sep.length ≤ 16777216) (h : Q (.str (Txt.join sep xs)) H) : CV G A (.builtin "str.join") [.str sep, .ref l] Q H := fun us eu s hs => by
  obtain ⟨u, w, rfl, e1, e2⟩ := us2 eu
  obtain ⟨t, rfl⟩ := abs_str e1
  rw [abs_ref e2]
  obtain ⟨vs, n, h1, r1⟩ := hs.list hl
  exact join_list h1.isList (strs_abs r1) hok fun t' k => tok1 (Q := Q) hs h
theorem cv_indexL {l : Addr} {xs : List AV} {a : AV} {j : Nat} {Q : AV → AH → Prop} (hl : H l = some (.list xs)) (fa : flat a = true) (fx : ∀ x ∈ xs, flat x = true) (hz : xs.length < 2 ^ 62) (hj : j < xs.length) (hit : ∀ x, xs[j]? = some x → feq x a = true) (hno : ∀ (m : Nat) x, m < j → xs[m]? = some x → feq x a = false) (h : Q (.int j) H) :
    CV G A (.builtin "list.index") [.ref l, a] Q H := fun us eu s hs => by
  obtain ⟨u, w, rfl, e1, e2⟩ := us2 eu
  rw [abs_ref e1]
  obtain ⟨vs, n, h1, r1⟩ := hs.list hl
  have sz := abs_size r1
  have at_ : ∀ (m : Nat) (hm : m < vs.size), xs[m]? = some (abs vs[m]) := fun m hm => by rw [← r1]; simp [hm]
  exact call_meets PySem.F.slot_list_index ⟨_, h1, rfl⟩ PySem.F.entry_list_index (PySem.F.args_list_index_2 _ _)
    (SeqAt.list_indexAt l vs n none #[] w (fun y => feq (abs y) a) j (by lia) (by lia) (hit _ (at_ j (by lia))) (fun m hm hmj => hno m _ hmj (at_ m hm)))
    ⟨h1, fun y hy => eqF rfl e2 (fx _ (mem_abs r1 hy)) fa, tok1 (Q := Q) hs h⟩
/-! a negative index -/
theorem g_neg {l : Addr} {xs : List AV} {k : Int} {x : AV} {Q : AV → AH → Prop} (hl : H l = some (.list xs)) (h0 : k < 0) (h1 : -(xs.length : Int) ≤ k) (h2 : -(2 ^ 63) ≤ k) (hx : xs[(k + xs.length).toNat]? = some x) (h : Q x H) : AT2 G A getItem (.ref l) (.int k) Q H := fun v u ev eu s hs => by
  obtain ⟨t, rfl⟩ := abs_int eu; rw [abs_ref ev]
  obtain ⟨vs, n, e1, r1⟩ := hs.list hl
  have sz := abs_size r1
  obtain ⟨y, e2, e3⟩ := abs_at r1 hx
  exact wpAny_getItem_list_neg e1.isList h0 (by lia) h2 (by rw [sz]; exact e2) (tok0 (Q := Q) hs (by rw [e3]; exact h))
theorem sub_neg {value slice : Expr} {l : Addr} {xs : List AV} {k : Int} {x : AV} {Q : AV → St → Prop} (ns : NoSl slice) (hl : σ.H l = some (.list xs)) (h0 : k < 0) (h1 : -(xs.length : Int) ≤ k) (h2 : -(2 ^ 63) ≤ k) (hx : xs[(k + xs.length).toNat]? = some x) (h : Q x σ) : SUB G A env value slice (.ref l) (.int k) Q σ := fun v u ev eu s hs => by
  obtain ⟨vs, n, e1, r1⟩ := hs.hr.list hl
  have T : s.TypeIs v "list" := by rw [abs_ref ev]; exact e1.isList.typeIs
  exact tail_any T slot_list_getitem.lookup (WF.of_WT (Q := fun r σ' => Q (abs r) σ') (g_neg (Q := fun v H' => Q v ⟨H', σ.m⟩) hl h0 h1 h2 hx h v u ev eu) s hs) (ns v u)
end
end Mine
namespace Mine
section
variable {G : Md} {A : Around} {env : Env} {σ : St} {pos : Pos} {H : AH}
/-- a list, of the law's own making or handed to it -/
noncomputable def ListAt (G : Md) (H : AH) (l : Addr) (xs : List AV) : Prop := H l = some (.list xs) ∨ ∃ vs, G.hT.IsList l vs ∧ vs.toList.map abs = xs
theorem ListAt.is {h : Heap} {l : Addr} {xs : List AV} (L : ListAt G H l xs) (R : HR G H h) : ∃ vs, h.IsList l vs ∧ vs.toList.map abs = xs := by
  rcases L with L | ⟨vs, ⟨o, ho, r⟩, e⟩
  · obtain ⟨vs, n, e1, r1⟩ := R.list L
    exact ⟨vs, e1.isList, r1⟩
  · exact ⟨vs, ⟨o, R.keep _ _ ho, r⟩, e⟩
theorem FR.push_any {h : Heap} (R : FR G env σ h) (o : Obj) : FStep G env σ h σ (h.push o) := (R.pushRaw o).1
theorem we_SliceUp {value upper : Expr} {p : Pos} {Q : AV → St → Prop} (ht : ∀ o r, letTemporaryGo value o r = pure ())
    (h : WE G A env value (fun o σ₁ => WE G A env upper (fun u σ₂ => ∃ l xs b, o = .ref l ∧ u = .int b ∧ 0 ≤ b ∧ ListAt G σ₂.H l xs ∧ xs.length ≤ sizeLine ∧ ∀ a, σ₂.H a = none → Q (.ref a) ⟨upd σ₂.H a (.list (xs.take b.toNat)), σ₂.m⟩) σ₁) σ) :
    WE G A env (.Subscript value (.Slice none (some upper) none p) pos) Q σ := fun s hs =>
  wpAny_Subscript_Slice slot_list_getitem.lookup (WF.go0 hs h fun o s₁ σ₁ S₁ X₁ h₁ => wpAny_Slice (by
    rw [evalPart_none]
    refine wpAny_pure ?_
    rw [evalPart_some]
    refine WF.go hs S₁ X₁ h₁ fun u s₂ σ₂ S₂ X₂ ⟨l, xs, b, eo, eu, hb, hl, hz, hQ⟩ => ?_
    refine wpAny_pure ?_
    obtain ⟨t, rfl⟩ := abs_int eu
    rw [abs_ref eo]
    have P := S₂.rel.push_any { cls := .type "slice", data := .fields #[.none, .int b t, .none] }
    obtain ⟨vs, e1, r1⟩ := hl.is P.rel.hr
    have sz := abs_size r1
    refine ⟨e1.typeIs, wpAny_getItem_list_slice e1 ⟨_, Heap.get?_push_size _ rfl, rfl, rfl⟩ .none (.int b t) .none (by simp) ?_ (by lia)⟩
    have eb : b = (b.toNat : Int) := by lia
    have pk : (slicePick vs none (some b) none).toList.map abs = xs.take b.toNat := by
      rw [eb, slicePick_upto' vs b.toNat, ← r1, ← eb]; simp
    obtain ⟨S, n⟩ := P.rel.hr.upd_push (o := .list (xs.take b.toNat)) (ob := { cls := .type "list", data := .seq (slicePick vs none (some b) none) }) ⟨_, 0, rfl, pk⟩
    exact ⟨_, (S₂.trans P hs).trans (S.toF P.rel) hs, X₂.trans ⟨rfl, rfl, rfl⟩, hQ _ n⟩)) ht
end
end Mine
namespace Mine
theorem flat_nil : ∀ x ∈ ([] : List AV), flat x = true := fun _ h => nomatch h
theorem flat_cons {a : AV} {r : List AV} (h : flat a = true) (k : ∀ x ∈ r, flat x = true) : ∀ x ∈ a :: r, flat x = true := fun x hx => by
  rcases List.mem_cons.mp hx with rfl | hx
  · exact h
  · exact k x hx
theorem small_len {α : Type} {xs : List α} (h : xs.length ≤ 1000) : xs.length ≤ sizeLine := by rw [sizeLine_eq]; lia
section
variable {G : Md} {A : Around} {env : Env} {σ : St} {pos : Pos} {H : AH} {Q : AV → AH → Prop}
/-! isinstance -/
theorem kV1 (P : Params) : plainGet (hd.heap_39 P) 314 (Str.ofString "__class__") = true := by k_is
theorem kV2 (P : Params) : findIn (hd.heap_39 P) (.ref 314) (Str.ofString "__class__") = some (some (.builtin "object.__class__")) := by k_is
theorem kV3 (P : Params) : specialIn (hd.heap_39 P) (.builtin "object.__class__") (Str.ofString "__get__") = some (some (.builtin "getset_descriptor.__get__")) := by k_is
theorem kV4 (P : Params) : takesIn (hd.heap_39 P) (.builtin "object.__class__") = some true := by k_is
theorem kV5 (P : Params) : mroIn (hd.heap_39 P) 314 (.type "object") = some true := by k_is
theorem kN1 (P : Params) : plainGet (hd.heap_39 P) 285 (Str.ofString "__class__") = true := by k_is
theorem kN2 (P : Params) : findIn (hd.heap_39 P) (.ref 285) (Str.ofString "__class__") = some (some (.builtin "object.__class__")) := by k_is
theorem kN5 (P : Params) : mroIn (hd.heap_39 P) 285 (.type "object") = some true := by k_is
theorem kVV (P : Params) : kitOne (hd.heap_39 P) (.ref 314) (.ref 314) = some true := by kit_is
theorem kNV (P : Params) : kitOne (hd.heap_39 P) (.ref 285) (.ref 314) = some false := by kit_is
theorem kIV (P : Params) : kitOne (hd.heap_39 P) (.type "int") (.ref 314) = some false := by kit_is
theorem kSV (P : Params) : kitOne (hd.heap_39 P) (.type "str") (.ref 314) = some false := by kit_is
theorem kTV (P : Params) : kitOne (hd.heap_39 P) (.type "tuple") (.ref 314) = some false := by kit_is
theorem kIT (P : Params) : kitAny (hd.heap_39 P) (.type "int") [.type "int", .type "str", .type "tuple"] = some true := by kit_is
theorem kST (P : Params) : kitAny (hd.heap_39 P) (.type "str") [.type "int", .type "str", .type "tuple"] = some true := by kit_is
theorem kTT (P : Params) : kitAny (hd.heap_39 P) (.type "tuple") [.type "int", .type "str", .type "tuple"] = some true := by kit_is
theorem kNT (P : Params) : kitAny (hd.heap_39 P) (.ref 285) [.type "int", .type "str", .type "tuple"] = some false := by kit_is
theorem tok1' {s : Shared} {v : AV} (hs : HR G H s.heap) (h : Q v H) : ∀ tk, ∃ H', HStep G H s.heap H' ({ s with toks := tk } : Shared).heap ∧ SS s { s with toks := tk } ∧ Q v H' := fun tk => tok1 hs h
theorem isi_vec (g : GO G) {F : AH} {x i : Addr} {k : Str} {av : AV} (v : IsVec F x k i av) (l : Le F H) (h : Q (.bool true) H) : CV G A (.builtin "isinstance") [.ref x, .ref 314] Q H := fun us eu s hs => by
  obtain ⟨u, w, rfl, e1, e2⟩ := us2 eu
  rw [abs_ref e1, abs_ref e2]
  obtain ⟨d, b, c, v1, v2⟩ := v.ex
  obtain ⟨ds, n, I, D, r⟩ := hs.inst (l _ _ v1) (l _ _ v2)
  exact kia_one (kitx_own (kV1 _) (q314 _) (kV2 _) (kV3 _) (kV4 _) (kV5 _)) (g.K ▸ g.gd.X.keeps hs.keep) I (kVV _) (by intro q; cases q) (tok1' hs h)
theorem isi_null (g : GO G) {F : AH} {x : Addr} (v : IsNull F x) (l : Le F H) (h : Q (.bool false) H) : CV G A (.builtin "isinstance") [.ref x, .ref 314] Q H := fun us eu s hs => by
  obtain ⟨u, w, rfl, e1, e2⟩ := us2 eu
  rw [abs_ref e1, abs_ref e2]
  obtain ⟨d, v1, v2⟩ := v.ex
  obtain ⟨ds, n, I, D, r⟩ := hs.inst (l _ _ v1) (l _ _ v2)
  exact kia_one (kitx_own (kN1 _) (q285 _) (kN2 _) (kV3 _) (kV4 _) (kN5 _)) (g.K ▸ g.gd.X.keeps hs.keep) I (kNV _) (by intro q; cases q) (tok1' hs h)
theorem isi_int (g : GO G) {i : Int} (h : Q (.bool false) H) : CV G A (.builtin "isinstance") [.int i, .ref 314] Q H := fun us eu s hs => by
  obtain ⟨u, w, rfl, e1, e2⟩ := us2 eu
  obtain ⟨t, rfl⟩ := abs_int e1
  rw [abs_ref e2]
  exact kia_one kitx_int (g.K ▸ g.gd.X.keeps hs.keep) trivial (kIV _) (by intro q; cases q) (tok1' hs h)
theorem isi_str (g : GO G) {i : Str} (h : Q (.bool false) H) : CV G A (.builtin "isinstance") [.str i, .ref 314] Q H := fun us eu s hs => by
  obtain ⟨u, w, rfl, e1, e2⟩ := us2 eu
  obtain ⟨t, rfl⟩ := abs_str e1
  rw [abs_ref e2]
  exact kia_one kitx_str (g.K ▸ g.gd.X.keeps hs.keep) trivial (kSV _) (by intro q; cases q) (tok1' hs h)
theorem isi_tup (g : GO G) {a : Addr} {xs : List AV} (ha : H a = some (.tup xs)) (h : Q (.bool false) H) : CV G A (.builtin "isinstance") [.ref a, .ref 314] Q H := fun us eu s hs => by
  obtain ⟨u, w, rfl, e1, e2⟩ := us2 eu
  rw [abs_ref e1, abs_ref e2]
  obtain ⟨vs, n, t1, r1⟩ := hs.tup ha
  exact kia_one kitx_tuple (g.K ▸ g.gd.X.keeps hs.keep) ⟨_, t1, rfl⟩ (kTV _) (by intro q; cases q) (tok1' hs h)
/-- the three types -/
noncomputable def T3 (H : AH) (t : Addr) : Prop := H t = some (.tup [.ty "int", .ty "str", .ty "tuple"])
theorem T3.is {t : Addr} {h : Heap} (e : T3 H t) (R : HR G H h) : ∃ n, h.get? t = some ⟨.type "tuple", none, .seq [Value.type "int", .type "str", .type "tuple"].toArray n, #[]⟩ := by
  obtain ⟨vs, n, t1, r1⟩ := R.tup e
  obtain ⟨l⟩ := vs
  obtain ⟨a, b, c, el⟩ := us3 r1
  · subst el
    simp only [List.map_cons, List.map_nil, List.cons.injEq] at r1
    obtain ⟨q1, q2, q3, _⟩ := r1
    rw [abs_ty q1, abs_ty q2, abs_ty q3] at t1
    exact ⟨n, t1⟩
theorem is3_int (g : GO G) {i : Int} {t : Addr} (ht : T3 H t) (h : Q (.bool true) H) : CV G A (.builtin "isinstance") [.int i, .ref t] Q H := fun us eu s hs => by
  obtain ⟨u, w, rfl, e1, e2⟩ := us2 eu
  obtain ⟨t', rfl⟩ := abs_int e1
  rw [abs_ref e2]
  obtain ⟨n, htp⟩ := ht.is hs
  exact kia_tup kitx_int (g.K ▸ g.gd.X.keeps hs.keep) trivial htp (kIT _) (by intro q; cases q) (tok1' hs h)
theorem is3_str (g : GO G) {i : Str} {t : Addr} (ht : T3 H t) (h : Q (.bool true) H) : CV G A (.builtin "isinstance") [.str i, .ref t] Q H := fun us eu s hs => by
  obtain ⟨u, w, rfl, e1, e2⟩ := us2 eu
  obtain ⟨t', rfl⟩ := abs_str e1
  rw [abs_ref e2]
  obtain ⟨n, htp⟩ := ht.is hs
  exact kia_tup kitx_str (g.K ▸ g.gd.X.keeps hs.keep) trivial htp (kST _) (by intro q; cases q) (tok1' hs h)
theorem is3_tup (g : GO G) {a t : Addr} {xs : List AV} (ha : H a = some (.tup xs)) (ht : T3 H t) (h : Q (.bool true) H) : CV G A (.builtin "isinstance") [.ref a, .ref t] Q H := fun us eu s hs => by
  obtain ⟨u, w, rfl, e1, e2⟩ := us2 eu
  rw [abs_ref e1, abs_ref e2]
  obtain ⟨n, htp⟩ := ht.is hs
  obtain ⟨vs, n', t1, r1⟩ := hs.tup ha
  exact kia_tup kitx_tuple (g.K ▸ g.gd.X.keeps hs.keep) ⟨_, t1, rfl⟩ htp (kTT _) (by intro q; cases q) (tok1' hs h)
theorem is3_null (g : GO G) {F : AH} {x t : Addr} (v : IsNull F x) (l : Le F H) (ht : T3 H t) (h : Q (.bool false) H) : CV G A (.builtin "isinstance") [.ref x, .ref t] Q H := fun us eu s hs => by
  obtain ⟨u, w, rfl, e1, e2⟩ := us2 eu
  rw [abs_ref e1, abs_ref e2]
  obtain ⟨n, htp⟩ := ht.is hs
  obtain ⟨d, v1, v2⟩ := v.ex
  obtain ⟨ds, n', I, D, r⟩ := hs.inst (l _ _ v1) (l _ _ v2)
  exact kia_tup (kitx_own (kN1 _) (q285 _) (kN2 _) (kV3 _) (kV4 _) (kN5 _)) (g.K ▸ g.gd.X.keeps hs.keep) I htp (kNT _) (by intro q; cases q) (tok1' hs h)
end
end Mine
namespace Mine
section
variable {G : Md}
theorem ite_T {P Q : Prop} {i : Decidable True} (h : P) : @ite Prop True i P Q := by rw [if_pos trivial]; exact h
theorem ite_F {P Q : Prop} {i : Decidable False} (h : Q) : @ite Prop False i P Q := by rw [if_neg (fun z => z)]; exact h
theorem ite_tt {P Q : Prop} {i : Decidable (true = true)} (h : P) : @ite Prop (true = true) i P Q := by rw [if_pos rfl]; exact h
theorem ite_ff {P Q : Prop} {i : Decidable (false = true)} (h : Q) : @ite Prop (false = true) i P Q := by rw [if_neg (by simp)]; exact h
theorem bind_rev (x : Str) : ∀ l : List (Str × Value), bindM (l.reverse.map fun p => (p.1, abs p.2)) x = (l.lookup x).map abs
  | [] => rfl
  | p :: r => by
    have ih := bind_rev x r
    unfold bindM at ih ⊢
    rw [List.reverse_cons, List.map_append, List.foldl_append, List.lookup_cons]
    show put _ p.1 (abs p.2) x = _
    unfold put
    by_cases q : x = p.1
    · subst q; simp
    · have : (x == p.1) = false := by simpa using q
      rw [this, if_neg q]; exact ih
/-- a def of the text with defaults, no name of it a cell -/
theorem wcallD {f : Addr} {fd : FuncData} {body : List Stmt} {args : List AV} {bs : List (Str × AV)} {Q : AV → AH → Prop} {H : AH} {D : Nat} (gd : Gd G) (ok : FnOK G f fd body) (hcell : ∀ x ∈ fd.scope.names, x.2 ≠ .cell)
    (hb : ∀ us, us.map abs = args → ∀ s : Shared, G.K.In s.heap → ∃ binds, BindsTo s fd ⟨us, []⟩ binds ∧ (binds.map fun p => (p.1, abs p.2)) = bs) (hp : (bs.all fun p => okParam fd.scope p.1) = true)
    (h : ∀ A env, Ar D A → EnvOK env → env.scope = fd.scope → WS G A env body (fun fl σ' => Q (retV fl) σ'.H) ⟨H, bindM bs⟩) : ∀ A, Ar (D + 1) A → CC G A f args Q H := fun A ar us eu s hs => by
  obtain ⟨oc, od, osl, hK⟩ := ok.at_
  have X := gd.X.keeps hs.keep
  obtain ⟨binds, hbd, zips⟩ := hb us eu s X
  have kinds : ∀ p ∈ binds, fd.scope.names.lookup p.1 = some .local ∧ (p.1 == ("__debug__" : Str)) = false ∧ (p.1 == ("__classdict__" : Str)) = false := fun p hm => by
    have hm' : (p.1, abs p.2) ∈ bs := by rw [← zips]; exact List.mem_map_of_mem hm
    have := List.all_eq_true.mp hp _ hm'
    unfold okParam at this
    simp only [Bool.and_eq_true, Bool.or_eq_true, beq_iff_eq, Bool.not_eq_true'] at this
    refine ⟨this.1.1.elim id fun e => absurd rfl (hcell _ (mem_of_look e)), this.1.2, this.2⟩
  refine codeAny_call_def (fd := fd) (body := body) (binds := binds) ar.room (X _ _ hK) rfl (gd.nolimit.keeps hs.keep) (codeRec_of X ok.code) ok.body hbd hcell (fun p hm => (kinds p hm).1) (fun h₀ hns keep => ?_) ok.co ok.gen ok.kind
  generalize henv : callEnv fd s.heap.objs.size f = env
  have e1 : env.locals = s.heap.objs.size := by rw [← henv]; rfl
  have e2 : env.cells = [] := by rw [← henv]; exact ok.clo
  have e3 : env.scope = fd.scope := by rw [← henv]; rfl
  have ek : ∀ x, env.kindOf x = fd.scope.names.lookup x := fun x => by unfold Env.kindOf; rw [e3]
  have nofree : ∀ x, env.kindOf x ≠ some .free := fun x => by rw [ek]; exact look_none_free ok.free x
  have nocell : ∀ x, env.kindOf x ≠ some .cell := fun x e => by rw [ek] at e; exact absurd rfl (hcell _ (mem_of_look e))
  have eo : EnvOK env := ⟨by rw [e3]; exact ok.kind, by rw [← henv]; exact ok.glob, by rw [← henv]; exact ok.blt, fun x kx => kx.elim (fun e => absurd e (nocell x)) fun e => absurd e (nofree x),
    fun x y c ex ey => (by rw [e2] at ex; cases ex), fun x e => (by rw [e2] at e; cases e)⟩
  have ow : ∀ b, own env b → b = s.heap.objs.size := fun b ob => by
    rcases ob with rfl | ⟨x, e⟩
    · exact e1
    · rw [e2] at e; cases e
  have fresh : ∀ b, own env b → s.heap.get? b = none := fun b ob => by
    cases q : s.heap.get? b with
    | none => rfl
    | some o => exact absurd (Heap.lt_size q) (by rw [ow b ob]; exact Nat.lt_irrefl _)
  have look : ∀ x, bindM bs x = (binds.reverse.lookup x).map abs := fun x => by
    have := bind_rev x binds.reverse
    rw [List.reverse_reverse, zips] at this
    exact this
  have R : FR G env ⟨H, bindM bs⟩ h₀ := by
    refine ⟨hs.keeps keep, ⟨⟨_, by rw [e1]; exact hns, fun x v kx hm => ?_⟩, fun x c e => ?_, fun x v hm => ?_⟩, fun b ob => ⟨?_, ?_⟩⟩
    · change bindM bs x = some v at hm
      rw [look] at hm
      exact Option.map_eq_some_iff.mp hm
    · rw [e2] at e; cases e
    · change bindM bs x = some v at hm
      have hm' := bindM_mem hm
      rw [← zips] at hm'
      obtain ⟨p, hp1, hp2⟩ := List.mem_map.mp hm'
      obtain ⟨k1, k2, k3⟩ := kinds p hp1
      cases hp2
      exact ⟨.inl (by rw [ek]; exact k1), k2, k3⟩
    · show H b = none
      cases q : H b with
      | none => rfl
      | some o => obtain ⟨_, ob', e', _⟩ := hs.obj b o q; rw [fresh b ob] at e'; cases e'
    · cases q : G.hT.get? b with
      | none => rfl
      | some o => have := hs.keep b o q; rw [fresh b ob] at this; cases this
  have fin : ∀ (v : Value) (av : AV) s', (∃ σ', FStep G env ⟨H, bindM bs⟩ h₀ σ' s'.heap ∧ SS { s with heap := h₀, toks := s.toks + binds.length } s' ∧ Q av σ'.H) → abs v = av → ∃ H', HStep G H s.heap H' s'.heap ∧ SS s s' ∧ Q (abs v) H' := by
    rintro v _ s' ⟨σ', S, X', q⟩ rfl
    refine ⟨σ'.H, ⟨S.rel.hr, fun b ob e n => S.frame b ob (keep b ob e) n fun o => ?_, fun a e => (S.fresh a e).imp id fun z => ?_⟩, (show SS s _ from ⟨rfl, rfl, rfl⟩ : SS s { s with heap := h₀, toks := s.toks + binds.length }).trans X', q⟩
    · rw [fresh b o] at e; cases e
    · cases q : s.heap.get? a with
      | none => rfl
      | some o => rw [keep a o q] at z; cases z
  refine wpAny_mono (h (A.deeper env) env ar.deeper eo e3 { s with heap := h₀, toks := s.toks + binds.length } R) (fun fl s' hq => ?_) fun _ _ e => e.elim
  cases fl <;> exact fin _ _ _ hq rfl
theorem GO.enterD (g : GO G) {f : Addr} {oc : Value} {od : Option Addr} {osl : Array (Option Value)} {fd : FuncData} {body : List Stmt} (bs : List (Str × AV)) {args : List AV} {Q : AV → AH → Prop} {H : AH} {D : Nat} {A : Around} (ar : Ar (D + 1) A)
    (h1 : (hd.heap_39 G.w.params).lookup f = some ⟨oc, od, .func fd, osl⟩) (h2 : codeIn (hd.heap_39 G.w.params) fd.code fd.qualname = true) (h3 : fd.body = .stmts body)
    (h4 : fd.closure = [] ∧ fd.globals = mainGlobals ∧ fd.builtins = builtinsNs ∧ fd.scope.isCoroutine = false ∧ fd.scope.isGenerator = false ∧ fd.scope.kind = .function ∧ (fd.scope.names.all fun p => p.2 != .free) = true)
    (h5 : (fd.scope.names.all fun p => p.2 != .cell) = true)
    (hb : ∀ us, us.map abs = args → ∀ s : Shared, (hd.heap_39 G.w.params).In s.heap → ∃ binds, BindsTo s fd ⟨us, []⟩ binds ∧ (binds.map fun p => (p.1, abs p.2)) = bs) (hp : (bs.all fun p => okParam fd.scope p.1) = true)
    (h : ∀ A env, Ar D A → EnvOK env → env.scope = fd.scope → WS G A env body (kfin Q) ⟨H, bindM bs⟩) : CC G A f args Q H :=
  wcallD g.gd (g.fn h1 h2 h3 h4.1 h4.2.1 h4.2.2.1 h4.2.2.2.1 h4.2.2.2.2.1 h4.2.2.2.2.2.1 h4.2.2.2.2.2.2) (fun x hx e => by
    have := List.all_eq_true.mp h5 x hx
    rw [e] at this; cases this) (by rw [g.K]; exact hb) hp h A ar
theorem seta_mk {attr : Str} {v : AV} {Q : St → Prop} {σ : St} {x C d : Addr} {es : List (Str × AV)} (hx : σ.H x = some (.inst C d)) (hd : σ.H d = some (.dict es)) (c : Cls G C attr) (hz : es.length < 1000) (h : Q ⟨upd σ.H d (.dict (dput attr v es)), σ.m⟩) : SETA G attr (.ref x) v Q σ :=
  ⟨x, C, d, es, rfl, hx, hd, c, hz, h⟩
end
end Mine
namespace Mine
section
variable {G : Md} {A : Around} {env : Env} {σ : St} {pos : Pos} {H : AH}
/-! while -/
noncomputable def turnW (Inv : Nat → St → Prop) (n : Nat) (Q : AFl → St → Prop) (f : AFl) (σ : St) : Prop := match f with
  | .next => ∃ m, m < n ∧ Inv m σ
  | .cont => ∃ m, m < n ∧ Inv m σ
  | .brk => Q .next σ
  | .ret v => Q (.ret v) σ
theorem wx_While {test : Expr} {body : List Stmt} {Q : AFl → St → Prop} (Inv : Nat → St → Prop) (n : Nat) (h0 : Inv n σ)
    (turn : ∀ n σ', Inv n σ' → WB G A env test (fun b σ₂ => if b then WS G A env body (turnW Inv n Q) σ₂ else Q .next σ₂) σ') : WX G A env (.While test body [] pos) Q σ := fun s hs => by
  refine wpAny_While (codeAny_whileLoop (fun n s' => ∃ σ', FStep G env σ s.heap σ' s'.heap ∧ SS s s' ∧ Inv n σ') ?_ n ⟨σ, .refl hs, .refl s, h0⟩)
  rintro n s' ⟨σ', S', X', hI⟩
  refine wpAny_mono (WF.go hs S' X' (turn n σ' hI) (Goal := fun b s₂ => ∃ σ₂, FStep G env σ s.heap σ₂ s₂.heap ∧ SS s s₂ ∧ if b then WS G A env body (turnW Inv n Q) σ₂ else Q .next σ₂) fun b s₂ σ₂ S₂ X₂ h₂ => ⟨σ₂, S₂, X₂, h₂⟩) (fun b s₂ ⟨σ₂, S₂, X₂, h₂⟩ => ?_) fun _ _ e => e.elim
  cases b with
  | false =>
    simp only [Bool.false_eq_true, if_false] at h₂ ⊢
    exact wpAny_execs_nil ⟨σ₂, S₂, X₂, h₂⟩
  | true =>
    simp only [if_true] at h₂ ⊢
    refine wpAny_mono (WF.go hs S₂ X₂ h₂ (Goal := fun f s₃ => ∃ σ₃, FStep G env σ s.heap σ₃ s₃.heap ∧ SS s s₃ ∧ turnW Inv n Q (absF f) σ₃) fun f s₃ σ₃ S₃ X₃ h₃ => ⟨σ₃, S₃, X₃, h₃⟩) (fun f s₃ ⟨σ₃, S₃, X₃, h₃⟩ => ?_) fun _ _ e => e.elim
    cases f with
    | next => obtain ⟨m, hm, h₃⟩ := h₃; exact ⟨m, hm, σ₃, S₃, X₃, h₃⟩
    | cont => obtain ⟨m, hm, h₃⟩ := h₃; exact ⟨m, hm, σ₃, S₃, X₃, h₃⟩
    | brk => exact ⟨σ₃, S₃, X₃, h₃⟩
    | ret v => exact ⟨σ₃, S₃, X₃, h₃⟩
/-! a store into a list -/
theorem setItem_at {M : Program} {w : World} {A : Around} {E : Value → Shared → Prop} {s : Shared} {l : Addr} {items : Array Value} {c : Nat} {i : Int} {t : Tok} {v : Value} {Q : Unit → Shared → Prop} (hl : IsL s.heap l items c) (h0 : 0 ≤ i) (h2 : i < 2 ^ 63) (hn : i < items.size)
    (hQ : Q () { s with heap := s.heap.update l (Obj.mapSeq (·.setIfInBounds i.toNat v)) }) : wpAny (model M w) A (setItem (.ref l) (.int i t) v) Q E s := by
  have hL := hl.isList
  unfold setItem
  try with_reducible refine wpAny_holding ?_
  first | refine wpAny_bind (wpAny_pure ?_) | skip
  refine wpAny_bind (wpAny_sequenceKey hL.typeIs (by decide) ?_)
  refine wpAny_bind (wpAny_callSpecial?_slot (name := Str.ofString "__setitem__") hL.typeIs slot_list_setitem (wpAny_call_entry slot_list_setitem hL.typeIs entry_list_setitem ?_ (args_list_setitem _ _ _)))
  show wpAny _ _ (Builtin.List.listSubscript? (.int i t) >>= _) _ _ s
  refine wpAny_bind (wpAny_listSubscript_int (fitsIndex_of h0 h2) ?_)
  clear h2
  obtain ⟨k, rfl⟩ := Int.eq_ofNat_of_zero_le h0
  have hk : k < items.size := by lia
  have hx' : items[k]? = some items[k] := Array.getElem?_eq_getElem hk
  show wpAny _ _ ((seqItemAt l k >>= fun r => pure (r.map (k, ·))) >>= _) _ _ s
  refine wpAny_bind (wpAny_bind (wpAny_seqItemAt hl rfl (wpAny_pure ?_)))
  rw [hx']
  show wpAny _ _ (setSeqItemAt l k v >>= _) _ _ s
  refine wpAny_bind (wpAny_setSeqItemAt hl rfl ?_)
  first
    | exact wpAny_bind (wpAny_pure (wpAny_pure ⟨.none, rfl, wpAny_pure hQ⟩))
    | exact wpAny_pure ⟨.none, rfl, wpAny_pure hQ⟩
noncomputable def SETI (G : Md) (o i v : AV) (Q : St → Prop) (σ : St) : Prop := ∃ l xs, ∃ k : Nat, o = .ref l ∧ i = .int k ∧ σ.H l = some (.list xs) ∧ k < xs.length ∧ xs.length < 2 ^ 62 ∧ Q ⟨upd σ.H l (.list (xs.set k v)), σ.m⟩
theorem seti_mk {l : Addr} {xs : List AV} {k : Nat} {v : AV} {Q : St → Prop} (hl : σ.H l = some (.list xs)) (h1 : k < xs.length) (h2 : xs.length < 2 ^ 62) (h : Q ⟨upd σ.H l (.list (xs.set k v)), σ.m⟩) : SETI G (.ref l) (.int k) v Q σ := ⟨l, xs, k, rfl, rfl, hl, h1, h2, h⟩
theorem wx_AssignI {o i value : Expr} {pos' : Pos} {Q : AFl → St → Prop} (h : WE G A env value (fun v σ₁ => WE G A env o (fun ov σ₂ => WE G A env i (fun iv σ₃ => SETI G ov iv v (Q .next) σ₃) σ₂) σ₁) σ)
    (hs : swapsWith value (some (.Subscript o i pos')) pos.line env = pure false) : WX G A env (.Assign [.Subscript o i pos'] value pos) Q σ := fun s hs' =>
  wpAny_Assign_Subscript (WF.go0 hs' h fun v s₁ σ₁ S₁ X₁ h₁ => WF.go hs' S₁ X₁ h₁ fun ov s₂ σ₂ S₂ X₂ h₂ => WF.go hs' S₂ X₂ h₂ fun iv s₃ σ₃ S₃ X₃ ⟨l, xs, k, eo, ei, hl, h1, h2, h₃⟩ => by
    rw [abs_ref eo]
    obtain ⟨t, rfl⟩ := abs_int ei
    obtain ⟨vs, n, e1, r1⟩ := S₃.rel.hr.list hl
    have sz := abs_size r1
    refine setItem_at e1 (by lia) (by lia) (by lia) ?_
    rw [show (k : Int).toNat = k by simp]
    obtain ⟨H', S, X, q⟩ := S₃.rel.hr.list_upd (Q := fun _ H' => Q .next ⟨H', σ₃.m⟩) hl e1 (fun z => z.setIfInBounds k v) (ys := xs.set k (abs v)) (by rw [← r1]; simp) (v := .none) h₃
    exact ⟨_, S₃.trans (S.toF S₃.rel) hs', X₃.trans X, q⟩) hs
/-! more operations -/
variable {Q : AV → AH → Prop}
theorem rep_flat (n : Nat) (xs : List AV) (vs : Array Value) (r1 : vs.toList.map abs = xs) : (List.foldl (fun x1 x2 => x1 ++ x2) #[] (List.replicate (if vs.isEmpty = true then 0 else n) vs)).toList.map abs = (List.replicate n xs).flatten := by
  by_cases q : vs.isEmpty = true
  · have h0 : vs.size = 0 := by simpa using q
    have : xs = [] := List.length_eq_zero_iff.mp ((abs_size r1).symm.trans h0)
    subst this
    rw [if_pos q]
    induction n with
    | zero => rfl
    | succ n ih => rw [List.replicate_succ, List.flatten_cons, ← ih]; rfl
  · rw [if_neg q, ← r1]
    have go : ∀ (n : Nat) (acc : Array Value), ((List.replicate n vs).foldl (fun x1 x2 => x1 ++ x2) acc).toList = acc.toList ++ (List.replicate n vs.toList).flatten := by
      intro n
      induction n with
      | zero => intro acc; simp
      | succ n ih => intro acc; rw [List.replicate_succ, List.foldl_cons, ih]; simp [List.replicate_succ]
    rw [go]
    simp [List.map_flatten]
theorem mulL_at {s : Shared} {l : Addr} {vs : Array Value} {c : Nat} {x : Int} {t : Tok} {G : Md} {A : Around} {E : Value → Shared → Prop} {Q : Value → Shared → Prop} (e1 : IsL s.heap l vs c) (hlo : -(2 ^ 63 : Int) ≤ x) (hhi : x < 2 ^ 63) (hsz : vs.size * x.toNat ≤ 2 ^ 24)
    (h : Q (.ref s.heap.objs.size) { s with heap := s.heap.push { cls := .type "list", data := .seq (List.foldl (fun x1 x2 => x1 ++ x2) #[] (List.replicate (if vs.isEmpty = true then 0 else x.toNat) vs)) } }) : wpAny (model G.prog G.w) A (binaryOp .Mult (.ref l) (.int x t)) Q E s :=
  wpAny_binaryOp_repeat_ref (T := "list") (U := "int") (by decide) ⟨_, e1, rfl⟩ (fun s' => typeIs_int s' x t) noFill_list_mul F.fills_int_mul F.slot_int_rmul repeat_list F.slot_int_index.lookup
    (call_meets F.slot_int_rmul (typeIs_int s x t) F.entry_int_rmul (F.args_int_rmul_2 _ _) (int___rmul___int_list x t l vs c)
      ⟨e1, rfl, ⟨_, e1, rfl⟩, call_meets F.slot_list_mul ⟨_, e1, rfl⟩ F.entry_list_mul (F.args_list_mul_2 _ _)
        (AutoListH.list___mul___list_int_3 l vs c x t (by simp [Builtin.List.listFitsIndex]; lia) (by lia) (by simp [Builtin.List.listTooLong, sizeLine]; lia))
        ⟨e1, h⟩⟩)
theorem b_mulL_h {l : Addr} {xs : List AV} {i : Int} (hl : H l = some (.list xs)) (hlo : -(2 ^ 63 : Int) ≤ i) (hhi : i < 2 ^ 63) (hz : xs.length * i.toNat ≤ 2 ^ 24) (h : ∀ a, H a = none → Q (.ref a) (upd H a (.list (List.replicate i.toNat xs).flatten))) : AT2 G A (binaryOp .Mult) (.ref l) (.int i) Q H := fun v u ev eu s hs => by
  obtain ⟨t, rfl⟩ := abs_int eu
  rw [abs_ref ev]
  obtain ⟨vs, c, e1, r1⟩ := hs.list hl
  exact mulL_at e1 hlo hhi (by rw [abs_size r1]; exact hz) (hs.push_list (rep_flat _ _ _ r1) h)
theorem i_sub_h {i j : Int} (h : Q (.int (i - j)) H) : AT2 G A (inplaceOp .Sub) (.int i) (.int j) Q H := fun v u ev eu => by
  obtain ⟨t, rfl⟩ := abs_int ev; obtain ⟨t', rfl⟩ := abs_int eu; exact fun s hs => isub_int (tok1 hs h)
theorem b_mulS_h {x : Str} {n : Int} (hok : MulOk x n) (h : Q (.str (Txt.mul x n)) H) : AT2 G A (binaryOp .Mult) (.str x) (.int n) Q H := fun v u ev eu => by
  obtain ⟨t, rfl⟩ := abs_str ev; obtain ⟨t', rfl⟩ := abs_int eu; exact fun s hs => SB.mul hok fun t' k => tok1 hs h
theorem cv_rjust {x c : Str} {n : Int} (hp : PadOk n = true) (hf : c.length = 1) (h : Q (.str (Txt.rjustF x n (c.cps.getD 0 0))) H) : CV G A (.builtin "str.rjust") [.str x, .int n, .str c] Q H := fun us eu s hs => by
  obtain ⟨u, w, y, rfl⟩ := us3 eu
  simp only [List.map_cons, List.map_nil, List.cons.injEq, and_true] at eu
  obtain ⟨t1, rfl⟩ := abs_str eu.1
  obtain ⟨t2, rfl⟩ := abs_int eu.2.1
  obtain ⟨t3, rfl⟩ := abs_str eu.2.2
  exact rjust_fill hp hf fun t' k => tok1 hs h
theorem b_mulL {Q : AV → St → Prop} {m : Str → Option AV} {l : Addr} {xs : List AV} {i : Int} (hl : H l = some (.list xs)) (hlo : -(2 ^ 63 : Int) ≤ i) (hhi : i < 2 ^ 63) (hz : xs.length * i.toNat ≤ 2 ^ 24) (h : ∀ a, H a = none → Q (.ref a) ⟨upd H a (.list (List.replicate i.toNat xs).flatten), m⟩) : AT2S G A (binaryOp .Mult) (.ref l) (.int i) Q ⟨H, m⟩ := b_mulL_h (Q := kh Q m) hl hlo hhi hz h
theorem i_sub {Q : AV → St → Prop} {σ : St} {i j : Int} (h : Q (.int (i - j)) σ) : AT2S G A (inplaceOp .Sub) (.int i) (.int j) Q σ := i_sub_h (Q := kh Q σ.m) (H := σ.H)  h
theorem b_mulS {Q : AV → St → Prop} {σ : St} {x : Str} {n : Int} (hok : MulOk x n) (h : Q (.str (Txt.mul x n)) σ) : AT2S G A (binaryOp .Mult) (.str x) (.int n) Q σ := b_mulS_h (Q := kh Q σ.m) (H := σ.H) hok h
end
end Mine
namespace Mine
section
variable {G : Md} {A : Around} {env : Env} {σ : St} {pos : Pos} {H : AH}
theorem we_SliceTup {value : Expr} {lower : Expr} {p : Pos} {Q : AV → St → Prop} (ht : ∀ o r, letTemporaryGo value o r = pure ())
    (h : WE G A env value (fun o σ₁ => WE G A env lower (fun u σ₂ => ∃ l xs, ∃ b : Nat, o = .ref l ∧ u = .int b ∧ 1 ≤ b ∧ b ≤ xs.length ∧ σ₂.H l = some (.tup xs) ∧ xs.length ≤ sizeLine ∧ ∀ a, σ₂.H a = none → Q (.ref a) ⟨upd σ₂.H a (.tup (xs.drop b)), σ₂.m⟩) σ₁) σ) :
    WE G A env (.Subscript value (.Slice (some lower) none none p) pos) Q σ := fun s hs =>
  wpAny_Subscript_Slice slot_tuple_getitem.lookup (WF.go0 hs h fun o s₁ σ₁ S₁ X₁ h₁ => wpAny_Slice (by
    rw [evalPart_some]
    refine WF.go hs S₁ X₁ h₁ fun u s₂ σ₂ S₂ X₂ ⟨l, xs, b, eo, eu, hb, hb2, hl, hz, hQ⟩ => ?_
    rw [evalPart_none]
    refine wpAny_pure (wpAny_pure ?_)
    obtain ⟨t, rfl⟩ := abs_int eu
    rw [abs_ref eo]
    have P := S₂.rel.push_any { cls := .type "slice", data := .fields #[.int b t, .none, .none] }
    obtain ⟨vs, n, e1, r1⟩ := P.rel.hr.tup hl
    have sz := abs_size r1
    have IT : IsTup (s₂.heap.push { cls := .type "slice", data := .fields #[.int b t, .none, .none] }) l vs := ⟨_, e1, rfl, _, rfl⟩
    refine ⟨IT.typeIs, getItem_tuple_from IT ⟨_, Heap.get?_push_size _ rfl, rfl, rfl⟩ hb (by lia) ?_ (by lia)⟩
    have pk : (vs.toList.drop b).toArray.toList.map abs = xs.drop b := by rw [← r1]; simp
    obtain ⟨S, n'⟩ := P.rel.hr.upd_push (o := .tup (xs.drop b)) (ob := { cls := .type "tuple", data := .seq (vs.toList.drop b).toArray }) ⟨_, 0, rfl, pk⟩
    exact ⟨_, (S₂.trans P hs).trans (S.toF P.rel) hs, X₂.trans ⟨rfl, rfl, rfl⟩, hQ _ n'⟩)) ht
/-! parts of texts -/
theorem slice_at {s : Shared} {x : Str} {t : Tok} {l u : Option (Int × Tok)} {sl : Addr} {Q : Value → Shared → Prop} {E : Value → Shared → Prop} (hs : s.heap.IsSlice sl l u none) (hz : x.length ≤ sizeLine)
    (h : ∀ t' k, Q (.str (Txt.slice x (l.map (·.1)) (u.map (·.1))) t') { s with toks := k }) : wpAny (model G.prog G.w) A (getItem (.str x t) (.ref sl)) Q E s := by
  refine wpAny_getItem_str_slice hs rfl ?_
  unfold sliceMade
  exact post_val_or_str ⟨Nat.le_trans (Txt.slice_le x _ _) hz, h⟩
theorem we_SliceTo {value upper : Expr} {p : Pos} {Q : AV → St → Prop} (ht : ∀ o r, letTemporaryGo value o r = pure ())
    (h : WE G A env value (fun o σ₁ => WE G A env upper (fun u σ₂ => ∃ x b, o = .str x ∧ u = .int b ∧ x.length ≤ sizeLine ∧ Q (.str (Txt.slice x none (some b))) σ₂) σ₁) σ) :
    WE G A env (.Subscript value (.Slice none (some upper) none p) pos) Q σ := fun s hs =>
  wpAny_Subscript_Slice F.slot_str_getitem.lookup (WF.go0 hs h fun o s₁ σ₁ S₁ X₁ h₁ => wpAny_Slice (by
    rw [evalPart_none]
    refine wpAny_pure ?_
    rw [evalPart_some]
    refine WF.go hs S₁ X₁ h₁ fun u s₂ σ₂ S₂ X₂ ⟨x, b, eo, eu, hz, hQ⟩ => ?_
    refine wpAny_pure ?_
    obtain ⟨t, rfl⟩ := abs_int eu
    obtain ⟨t', rfl⟩ := abs_str eo
    have P := S₂.rel.push_any { cls := .type "slice", data := .fields #[.none, .int b t, .none] }
    refine ⟨typeIs_str _ _ _, slice_at (l := none) (u := some (b, t)) ⟨_, Heap.get?_push_size _ rfl, rfl, rfl⟩ hz fun t' k => ?_⟩
    exact ⟨_, S₂.trans P hs, X₂.trans ⟨rfl, rfl, rfl⟩, hQ⟩)) ht
theorem we_SliceFr {value lower : Expr} {p : Pos} {Q : AV → St → Prop} (ht : ∀ o r, letTemporaryGo value o r = pure ())
    (h : WE G A env value (fun o σ₁ => WE G A env lower (fun u σ₂ => ∃ x b, o = .str x ∧ u = .int b ∧ x.length ≤ sizeLine ∧ Q (.str (Txt.slice x (some b) none)) σ₂) σ₁) σ) :
    WE G A env (.Subscript value (.Slice (some lower) none none p) pos) Q σ := fun s hs =>
  wpAny_Subscript_Slice F.slot_str_getitem.lookup (WF.go0 hs h fun o s₁ σ₁ S₁ X₁ h₁ => wpAny_Slice (by
    rw [evalPart_some]
    refine WF.go hs S₁ X₁ h₁ fun u s₂ σ₂ S₂ X₂ ⟨x, b, eo, eu, hz, hQ⟩ => ?_
    rw [evalPart_none]
    refine wpAny_pure (wpAny_pure ?_)
    obtain ⟨t, rfl⟩ := abs_int eu
    obtain ⟨t', rfl⟩ := abs_str eo
    have P := S₂.rel.push_any { cls := .type "slice", data := .fields #[.int b t, .none, .none] }
    refine ⟨typeIs_str _ _ _, slice_at (l := some (b, t)) (u := none) ⟨_, Heap.get?_push_size _ rfl, rfl, rfl⟩ hz fun t' k => ?_⟩
    exact ⟨_, S₂.trans P hs, X₂.trans ⟨rfl, rfl, rfl⟩, hQ⟩)) ht
theorem sub_str {value slice : Expr} {x : Str} {i : Int} {Q : AV → St → Prop} (ns : NoSl slice) (hr : fitsSsize i = true) (h1 : -(x.length : Int) ≤ i) (h2 : i < x.length) (h : Q (.str (Txt.item x i)) σ) : SUB G A env value slice (.str x) (.int i) Q σ := fun v u ev eu s hs => by
  obtain ⟨t, rfl⟩ := abs_str ev
  obtain ⟨t', rfl⟩ := abs_int eu
  obtain ⟨T, id, hl, hT, hg⟩ := SB.item (prog := G.prog) (w := G.w) (A := A) (E := fun _ _ => False) (s := s) (x := x) (t := t) (u := t') (Q := fun v s' => ∃ σ', FStep G env σ s.heap σ' s'.heap ∧ SS s s' ∧ Q (abs v) σ') hr (charAt_isSome h1 h2) ⟨σ, FStep.refl (h := s.heap) hs, ⟨rfl, rfl, rfl⟩, h⟩
  exact tail_any hT hl hg (ns _ _)
/-! the place of a value in a tuple -/
theorem cv_indexT {l : Addr} {xs : List AV} {a : AV} {j : Nat} {Q : AV → AH → Prop} (hl : H l = some (.tup xs)) (fa : flat a = true) (fx : ∀ x ∈ xs, flat x = true) (hz : xs.length < 2 ^ 62) (hj : j < xs.length) (hit : ∀ x, xs[j]? = some x → feq x a = true) (hno : ∀ (m : Nat) x, m < j → xs[m]? = some x → feq x a = false) (h : Q (.int j) H) :
    CV G A (.builtin "tuple.index") [.ref l, a] Q H := fun us eu s hs => by
  obtain ⟨u, w, rfl, e1, e2⟩ := us2 eu
  rw [abs_ref e1]
  obtain ⟨vs, n, h1, r1⟩ := hs.tup hl
  have sz := abs_size r1
  have at_ : ∀ (m : Nat) (hm : m < vs.size), xs[m]? = some (abs vs[m]) := fun m hm => by rw [← r1]; simp [hm]
  have eqs : ∀ (A : Around) (m : Nat) (hm : m < vs.size), SeqAt.EqAt A s vs[m] w (feq (abs vs[m]) a) := fun A m hm => eqF rfl e2 (fx _ (mem_abs r1 (Array.getElem_mem hm))) fa
  refine wpAny_call_entry PySem.F.slot_tuple_index ⟨_, h1, rfl⟩ PySem.F.entry_tuple_index ?_ (PySem.F.args_tuple_index_2 _ _)
  show wpAny _ _ (Builtin.Tuple.tupleItemsOf (.ref l) >>= _) _ _ s
  refine wpAny_bind (tupleItemsOf_ ⟨_, h1, rfl, n, rfl⟩ ?_)
  dsimp only
  simp only [pure_bind]
  rw [Std.Legacy.Range.forIn_eq_forIn_range']
  refine wpAny_bind ?_
  have hsz : Std.Legacy.Range.size [0:min vs.size vs.size] = vs.size := by simp [Std.Legacy.Range.size]
  rw [hsz]
  dsimp only
  have go : ∀ (k i : Nat), i + k = vs.size → i ≤ j → wpAny (model G.prog G.w) A.in1 (forIn (List.range' i k) (none, ()) fun (i : Nat) __s => (match vs[i]? with
      | some y => (do
        let b ← eqBool y w
        if b = true then (do let r ← retInt (i : Int); pure (ForInStep.done (some r, ()))) else pure (ForInStep.yield (none, ())) : Sem (ForInStep (Option Fin × Unit)))
      | _ => pure (ForInStep.yield (none, ())) : Sem (ForInStep (Option Fin × Unit)))) (fun r s' => r.1 = some (.done (.ret (.int (j : Int) s.toks))) ∧ s' = { s with toks := s.toks + 1 }) (fun _ _ => False) s := by
    intro k
    induction k with
    | zero => intro i e1 e2; lia
    | succ k ih =>
      intro i e1 e2
      have hi : i < vs.size := by lia
      rw [List.range'_succ, List.forIn_cons, Array.getElem?_eq_getElem hi]
      refine wpAny_bind (wpAny_bind (eqs A.in1 i hi G.prog G.w _ _ ?_))
      rcases Nat.lt_or_ge i j with q | q
      · rw [hno i _ q (at_ i hi), if_neg (by simp)]
        exact wpAny_pure (ih (i + 1) (by lia) q)
      · have : i = j := by lia
        subst this
        rw [hit _ (at_ i hi), if_pos rfl]
        refine wpAny_bind ?_
        unfold retInt
        refine wpAny_bind (wpAny_mkInt ?_)
        exact wpAny_pure (wpAny_pure (wpAny_pure ⟨rfl, rfl⟩))
  refine wpAny_mono (go vs.size 0 (by lia) (Nat.zero_le _)) ?_ fun _ _ e => e.elim
  rintro ⟨r, _⟩ s' ⟨rfl, rfl⟩
  exact wpAny_pure ⟨_, rfl, tok1 (Q := Q) hs h⟩
end
end Mine
namespace Mine
section
variable {G : Md} {A : Around} {env : Env} {σ : St} {pos : Pos} {H : AH}
/-! a dict display keyed by tuples of ints, read at once -/
noncomputable def WP (G : Md) (A : Around) (env : Env) (pos : Pos) : List (Expr × Expr) → (List (AV × AV) → St → Prop) → St → Prop
  | [], Q, σ => Q [] σ
  | p :: r, Q, σ => WE G A env p.1 (fun k σ₁ => WE G A env p.2 (fun v σ₂ => WP G A env pos r (fun l σ₃ => Q ((k, v) :: l) σ₃) σ₂) σ₁) σ
theorem wp_run {s₀ : Shared} {σ₀ : St} {Goal : List (Value × Value) → Shared → Prop} (hs : FR G env σ₀ s₀.heap) : ∀ (ps : List (Expr × Expr)) (Q : List (AV × AV) → St → Prop) (σ : St) (s : Shared), FStep G env σ₀ s₀.heap σ s.heap → SS s₀ s → WP G A env pos ps Q σ →
    (∀ vs s' σ', FStep G env σ₀ s₀.heap σ' s'.heap → SS s₀ s' → Q (vs.map fun p => (abs p.1, abs p.2)) σ' → Goal vs s') →
    wpAny (model G.prog G.w) A (evalPairs (ps.map fun p => (eval p.1 env, do let x ← eval p.2 env; standAt pos; pure x))) Goal (fun _ _ => False) s
  | [], Q, σ, s, S, X, h, k => evalPairs_nil (k [] s σ S X h)
  | p :: r, Q, σ, s, S, X, h, k => by
    rw [List.map_cons]
    refine evalPairs_cons (WF.go hs S X h fun kv s₁ σ₁ S₁ X₁ h₁ => wpAny_bind (WF.go hs S₁ X₁ h₁ fun vv s₂ σ₂ S₂ X₂ h₂ => wpAny_bind (wpAny_standAt (wpAny_pure ?_))))
    exact wp_run hs r _ σ₂ s₂ S₂ X₂ h₂ fun vs s' σ' S' X' q => k _ _ _ S' X' q
noncomputable abbrev tk (G : Md) : HeapKind G.prog G.w (List Int) := tupleKind (intKind G.prog G.w)
theorem store_tup {E : Value → Shared → Prop} {d : Addr} (hu : A.units < cLine) : ∀ (es xs : List (List Int × Addr × Value)) (s : Shared) (Q : PUnit → Shared → Prop), s.heap.DictOfH (tk G) d xs → (∀ e ∈ es, (tk G).is s.heap e.1 e.2.1) → xs.length + es.length ≤ 100 →
    (∀ h' t, h'.DictOfH (tk G) d (es.foldl (fun xs e => storedH xs e.1 e.2.1 e.2.2) xs) → Heap.SameBut d s.heap h' → Q PUnit.unit { s with heap := h', toks := t }) →
    wpAny (model G.prog G.w) A (forIn (es.map fun e => (Value.ref e.2.1, e.2.2)) PUnit.unit fun (x : Value × Value) (_ : PUnit) => (do dictSet d x.1 x.2; pure (ForInStep.yield PUnit.unit) : Sem (ForInStep PUnit))) Q E s
  | [], xs, s, Q, hm, _, _, hQ => wpAny_pure (hQ s.heap s.toks hm (Heap.SameBut.refl ..))
  | e :: es, xs, s, Q, hm, hk, hz, hQ => by
    rw [List.map_cons, List.forIn_cons]
    refine wpAny_bind (wpAny_bind (wpAny_dictSet_heap (knd := tk G) hu (hk e (.head _)) hm (fun h₁ hm₁ sb => ?_) (by rw [sizeLine_eq]; simp at hz; lia)))
    refine wpAny_pure ?_
    have hl : ∀ v, (storedH xs e.1 e.2.1 v).length ≤ xs.length + 1 := fun v => by unfold storedH; split <;> simp
    refine store_tup hu es _ _ Q hm₁ (fun e' he' => ?_) (by have := hl e.2.2; rw [List.length_cons] at hz; show (storedH xs e.1 e.2.1 e.2.2).length + _ ≤ _; lia) fun h' t hm' sb' => hQ h' t hm' (sb.trans sb')
    obtain ⟨o, en, ep, ho, _, hd, _⟩ := hm
    exact (tk G).keeps (hk e' (.tail _ he')) ho hd sb
theorem ints_are (is : List Int) : ∀ {vs : List Value}, vs.map abs = is.map AV.int → ItemsAre (intKind G.prog G.w) is vs := by
  induction is with
  | nil => intro vs e; rw [show vs = [] by simpa using e]; exact .nil
  | cons i is ih =>
    intro vs e
    match vs, e with
    | v :: vs, e =>
      simp only [List.map_cons, List.cons.injEq] at e
      obtain ⟨t, rfl⟩ := abs_int e.1
      exact .cons (by simp [intKind, Value.isInt]) (ih e.2)
theorem isKey {h : Heap} {a : Addr} {is : List Int} (R : HR G H h) (e : H a = some (.tup (is.map .int))) : (tk G).is h is a := by
  obtain ⟨vs, n, e1, r1⟩ := R.tup e
  exact ⟨_, vs, n, e1, rfl, rfl, ints_are is r1⟩
/-- what is asked of the pairs -/
inductive KVs (H : AH) : List (AV × AV) → List (List Int × Addr × AV) → Prop
  | nil : KVs H [] []
  | cons {a : Addr} {is : List Int} {v : AV} {r : List (AV × AV)} {es : List (List Int × Addr × AV)} (e : H a = some (.tup (is.map .int))) (k : KVs H r es) : KVs H ((.ref a, v) :: r) ((is, a, v) :: es)
theorem KVs.real {vs : List (Value × Value)} {es : List (List Int × Addr × AV)} (k : KVs H (vs.map fun p => (abs p.1, abs p.2)) es) : ∃ rs : List (List Int × Addr × Value), vs = rs.map (fun e => (Value.ref e.2.1, e.2.2)) ∧ es = rs.map (fun e => (e.1, e.2.1, abs e.2.2)) ∧ ∀ e ∈ rs, H e.2.1 = some (.tup (e.1.map .int)) := by
  generalize hl : (vs.map fun p => (abs p.1, abs p.2)) = l at k
  induction k generalizing vs with
  | nil => exact ⟨[], by simpa using hl, rfl, fun _ h => nomatch h⟩
  | @cons a is v r es e k ih =>
    match vs, hl with
    | (x, y) :: vs, hl =>
      simp only [List.map_cons, List.cons.injEq, Prod.mk.injEq] at hl
      obtain ⟨⟨q1, q2⟩, q3⟩ := hl
      obtain ⟨rs, h1, h2, h3⟩ := ih q3
      refine ⟨(is, a, y) :: rs, by rw [h1, abs_ref q1]; rfl, by rw [h2, ← q2]; rfl, fun e' he' => ?_⟩
      rcases List.mem_cons.mp he' with rfl | he'
      · exact e
      · exact h3 e' he'
theorem KVs.keys : ∀ {rs : List (List Int × Addr × Value)}, KVs H ((rs.map fun e => (Value.ref e.2.1, e.2.2)).map fun p => (abs p.1, abs p.2)) (rs.map fun e => (e.1, e.2.1, abs e.2.2)) → ∀ e ∈ rs, H e.2.1 = some (.tup (e.1.map .int))
  | [], _, _, h => nomatch h
  | e :: rs, k, e', he' => by
    cases k with
    | cons h1 k =>
      rcases List.mem_cons.mp he' with rfl | he'
      · exact h1
      · exact k.keys e' he'
/-- the last one of a key -/
noncomputable def lastOf (es : List (List Int × Addr × AV)) (k : List Int) : Option AV := (es.find? fun e => decide (e.1 = k)).map (·.2.2)
theorem store_keys (es xs : List (List Int × Addr × Value)) (hn : ((xs ++ es).map (·.1)).Nodup) : es.foldl (fun xs e => storedH xs e.1 e.2.1 e.2.2) xs = xs ++ es := by
  induction es generalizing xs with
  | nil => simp
  | cons e es ih =>
    rw [List.foldl_cons]
    have hno : atKey xs e.1 = none := by
      refine atKey_none_of_get fun j p hj => ?_
      rw [List.map_append, List.nodup_append] at hn
      have m1 : e.1 ∈ xs.map (·.1) := List.mem_map.mpr ⟨(e.1, p), List.mem_of_getElem? hj, rfl⟩
      exact hn.2.2 _ m1 _ (by simp) rfl
    rw [storedH_new hno, ih _ (by simpa using hn)]
    simp
theorem we_SubDictT {ps : List (Expr × Expr)} {kp p' : Pos} {slice : Expr} {Q : AV → St → Prop} (keys : List (Option Expr)) (vals : List Expr)
    (hshape : (evalEachOpt keys env).zip ((evalEach vals env).map fun v => do let x ← v; standAt kp; pure x) = (ps.map fun p => (eval p.1 env, do let x ← eval p.2 env; standAt kp; pure x)).map fun p => (some p.1, p.2))
    (h0 : ps ≠ []) (hlen : ps.length ≤ 15) (hu : A.units + 1 < cLine) (ns : NoSl slice)
    (h : WP G A env kp ps (fun kvs σ₁ => ∃ es, KVs σ₁.H kvs es ∧ (es.map (·.1)).Nodup ∧ es.length ≤ 50 ∧ WE G A env slice (fun iv σ₂ => KVs σ₂.H kvs es ∧ ∃ a is v, iv = .ref a ∧ σ₂.H a = some (.tup (is.map .int)) ∧ lastOf es is = some v ∧ Q v σ₂) σ₁) σ) :
    WE G A env (.Subscript (.Dict keys vals kp) slice pos) Q σ := fun s hs => by
  refine Subscript_ ?_
  rw [arm_eval_Dict, hshape, dictDisplay_pairs _ (by simpa using h0) (by simp; lia)]
  refine wpAny_bind (wpAny_standAt (wpAny_bind ?_))
  unfold subDict
  refine wpAny_bind (wpAny_alloc ?_)
  refine wpAny_bind (wpAny_holding ?_)
  rw [if_pos (by simpa using hlen)]
  obtain ⟨P, raw, nn⟩ := hs.pushRaw { cls := .type "dict", data := .dict #[] }
  refine wpAny_bind ?_
  refine wp_run (s₀ := { s with heap := s.heap.push { cls := .type "dict", data := .dict #[] } }) P.rel ps _ σ _ (.refl P.rel) (.refl _) h fun vs s₁ σ₁ S₁ X₁ ⟨es, hk, hnd, hel, h₁⟩ => ?_
  obtain ⟨rs, rfl, rfl, hr⟩ := hk.real
  refine wpAny_holding ?_
  have dict0 : (s.heap.push { cls := .type "dict", data := .dict #[] }).get? s.heap.objs.size = some { cls := .type "dict", data := .dict #[] } := Heap.get?_push_size _ rfl
  have dict1 := S₁.frame _ _ dict0 raw.n raw.o
  have raw1 : Raw G env s.heap.objs.size σ₁ := by
    refine ⟨?_, raw.o, raw.t⟩
    cases q : σ₁.H s.heap.objs.size with
    | none => rfl
    | some o => rcases S₁.fresh _ (by rw [q]; exact Option.some_ne_none _) with z | z
                · exact absurd raw.n z
                · rw [dict0] at z; cases z
  have hmap : (rs.map fun e => (e.1, e.2.1, abs e.2.2)).map (·.1) = rs.map (·.1) := by simp
  rw [hmap] at hnd
  refine wpAny_bind (store_tup (G := G) (by lia) rs [] s₁ _ ⟨_, #[], 0, dict1, ⟨rfl, rfl, rfl⟩, rfl, rfl, fun _ hx => (by simp at hx), List.nodup_nil⟩ (fun e he => isKey S₁.rel.hr (hr e he)) (by simpa using Nat.le_trans (by simpa using hel) (by decide : 50 ≤ 100)) fun h₂ t₂ hm₂ sb₂ => ?_)
  rw [store_keys rs [] (by simpa using hnd)] at hm₂
  have S2 : FStep G env σ s.heap σ₁ h₂ := (P.trans S₁ hs).rawStep raw1 nn sb₂.extBut
  refine wpAny_pure (wpAny_pure (wpAny_pure ?_))
  refine wpAny_mono (WF.go (s := { s₁ with heap := h₂, toks := t₂ }) S2.rel (.refl S2.rel) (.refl _) h₁ (Goal := fun iv s₃ => ∃ σ₃, FStep G env σ₁ h₂ σ₃ s₃.heap ∧ SS { s₁ with heap := h₂, toks := t₂ } s₃ ∧ KVs σ₃.H ((rs.map fun e => (Value.ref e.2.1, e.2.2)).map fun p => (abs p.1, abs p.2)) (rs.map fun e => (e.1, e.2.1, abs e.2.2)) ∧ ∃ a is v, abs iv = .ref a ∧ σ₃.H a = some (.tup (is.map .int)) ∧ lastOf (rs.map fun e => (e.1, e.2.1, abs e.2.2)) is = some v ∧ Q v σ₃) fun iv s₃ σ₃ S₃ X₃ q => ⟨σ₃, S₃, X₃, q⟩) (fun iv s₃ ⟨σ₃, S₃, X₃, hk3, a, is, v, ei, ha, hl, hq⟩ => ?_) fun _ _ e => e
  rw [abs_ref ei]
  obtain ⟨o, en, ep, ho, hx, hd, he, his, hn⟩ := hm₂
  have dict3 := S₃.frame _ _ ho raw1.n raw1.o
  have hm₃ : s₃.heap.DictOfH (tk G) s.heap.objs.size rs := ⟨o, en, ep, dict3, hx, hd, he, fun x hx' => isKey S₃.rel.hr (hk3.keys x hx'), hn⟩
  obtain ⟨p, hp1, hp2⟩ := Option.map_eq_some_iff.mp hl
  rw [List.find?_map] at hp1
  obtain ⟨r, hr1, rfl⟩ := Option.map_eq_some_iff.mp hp1
  have hat : atKey rs is = some r.2 := by unfold atKey; rw [show (fun x : List Int × Addr × Value => decide (x.1 = is)) = ((fun e : List Int × Addr × AV => decide (e.1 = is)) ∘ fun e : List Int × Addr × Value => (e.1, e.2.1, abs e.2.2)) from rfl, hr1]; rfl
  refine tail_any hm₃.typeIs slot_dict_getitem.lookup (wpAny_getItem_heap (knd := tk G) hu (isKey S₃.rel.hr ha) hm₃ hat ?_) (ns _ _)
  subst hp2
  have x1 : SS s { s with heap := s.heap.push { cls := .type "dict", data := .dict #[] } } := ⟨rfl, rfl, rfl⟩
  have x2 : SS s₁ { s₁ with heap := h₂, toks := t₂ } := ⟨rfl, rfl, rfl⟩
  have x3 : SS s₃ { s₃ with toks := s₃.toks + (tk G).draws is } := ⟨rfl, rfl, rfl⟩
  exact ⟨σ₃, S2.trans S₃ hs, (((x1.trans X₁).trans x2).trans X₃).trans x3, hq⟩
end
end Mine
namespace Mine
theorem retV_ret (v : AV) : retV (.ret v) = v := rfl
theorem retV_next : retV .next = .none := rfl
theorem ite_dec {p P Q : Prop} {d : Decidable p} {i : Decidable (@decide p d = true)} (h : p → P) (k : ¬ p → Q) : @ite Prop (@decide p d = true) i P Q := by
  by_cases q : p
  · rw [if_pos (decide_eq_true q)]; exact h q
  · rw [if_neg (by simpa using q)]; exact k q
theorem ite_b {b : Bool} {P Q : Prop} {i : Decidable (b = true)} (h : b = true → P) (k : b = false → Q) : @ite Prop (b = true) i P Q := by
  cases b with
  | true => rw [if_pos rfl]; exact h rfl
  | false => rw [if_neg (by simp)]; exact k rfl
/-- a vector object, all its parts -/
structure VObj (H : AH) (x d : Addr) (k : Str) (i : Addr) (av : AV) (b c : Bool) : Prop where
  x : H x = some (.inst 314 d)
  d : H d = some (.dict [(Str.ofString "kind", .str k), (Str.ofString "items", .ref i), (Str.ofString "attrs", av), (Str.ofString "shared", .bool b), (Str.ofString "loose", .bool c)])
theorem VObj.vec {H : AH} {x d i : Addr} {k : Str} {av : AV} {b c : Bool} (v : VObj H x d k i av b c) : IsVec H x k i av := ⟨d, b, c, v.x, v.d⟩
theorem VObj.ne {H : AH} {x d i : Addr} {k : Str} {av : AV} {b c : Bool} (v : VObj H x d k i av b c) : x ≠ d := fun e => by
  have := v.x; rw [e, v.d] at this; cases this
theorem natS_len' : ∀ n < 1001, (natS n).length ≤ 4 := by decide +kernel
theorem natS_len {n : Nat} (h : n ≤ 1000) : (natS n).length ≤ 4 := natS_len' n (by lia)
theorem nat_small' : ∀ n < 1002, ((n : Nat) : Int).natAbs.log2 < 1920 := by decide +kernel
theorem nat_small {n : Nat} (h : n ≤ 1001) : ((n : Nat) : Int).natAbs.log2 < 1920 := nat_small' n (by lia)
/-- the kinds in their order -/
noncomputable def top7 : List AV := [.str (Str.ofString "NULL"), .str (Str.ofString "logical"), .str (Str.ofString "integer"), .str (Str.ofString "double"), .str (Str.ofString "character"), .str (Str.ofString "list"), .str (Str.ofString "expression")]
theorem feq_s (a b : String) : feq (.str (Str.ofString a)) (.str (Str.ofString b)) = decide (a = b) := ofS_beq a b
theorem top7_flat : ∀ x ∈ top7, flat x = true := by
  unfold top7
  repeat (first | exact flat_nil | refine flat_cons rfl ?_)
theorem top7_in (k : Kd) : (top7.any fun y => feq y (.str k.s)) = true := by cases k <;> simp [top7, Kd.s, feq_s]
theorem top7_hit (k : Kd) : ∃ x, top7[k.o + 1]? = some x ∧ feq x (.str k.s) = true := by cases k <;> exact ⟨_, rfl, by simp [Kd.s, feq_s]⟩
theorem top7_no (k : Kd) : ∀ (m : Nat) x, m < k.o + 1 → top7[m]? = some x → feq x (.str k.s) = false := fun m x h e => by
  match m, e with
  | 0, e => cases e; cases k <;> simp [Kd.s, feq_s]
  | 1, e => cases e; cases k <;> first | (simp [Kd.o] at h; done) | (simp [Kd.s, feq_s]; done)
  | 2, e => cases e; cases k <;> first | (simp [Kd.o] at h; done) | (simp [Kd.s, feq_s]; done)
  | 3, e => cases e; cases k <;> first | (simp [Kd.o] at h; done) | (simp [Kd.s, feq_s]; done)
  | 4, e => cases e; cases k <;> first | (simp [Kd.o] at h; done) | (simp [Kd.s, feq_s]; done)
  | m + 5, e => cases k <;> (simp [Kd.o] at h) <;> lia
/-- the highest kind -/
noncomputable def hi (ks : List Kd) : Kd := ks.foldl (fun a b => if a.o ≤ b.o then b else a) .lg
section
variable {G : Md} {A : Around} {H : AH} {Q : AV → AH → Prop}
theorem cv_indexT' {l : Addr} {xs : List AV} {a : AV} {j : Nat} (hl : H l = some (.tup xs)) (fa : flat a = true) (fx : ∀ x ∈ xs, flat x = true) (hz : xs.length < 2 ^ 62) (hit : ∃ x, xs[j]? = some x ∧ feq x a = true) (hno : ∀ (m : Nat) x, m < j → xs[m]? = some x → feq x a = false) (h : Q (.int j) H) :
    CV G A (.builtin "tuple.index") [.ref l, a] Q H := by
  obtain ⟨y, e1, e2⟩ := hit
  refine cv_indexT hl fa fx hz ?_ (fun x e => by rw [e1] at e; cases e; exact e2) hno h
  rcases Nat.lt_or_ge j xs.length with q | q
  · exact q
  · rw [List.getElem?_eq_none q] at e1; cases e1
end
end Mine
namespace Mine
noncomputable def relabelS (scope osc : Scope) : Scope := { scope with names := scope.names.map fun (n, k) => if (k == .free && osc.kind == .function && osc.names.lookup n == some .cell) then (n, .cell) else (n, k) }
theorem relabelS_eq {scope osc : Scope} {env : Env} (h : env.scope = osc) : relabel scope env = relabelS scope osc := by subst h; rfl
noncomputable def csb (osc sc : Scope) (caps : List Str) : Bool :=
  (sc.kind == .function) && sc.names.all (fun x => x.2 != .cell) && sc.names.all (fun x => x.2 != .local || sc.names.lookup x.1 == some .local) &&
  sc.names.all (fun x => x.2 != .free || (osc.names.lookup x.1 == some .cell && caps.contains x.1)) &&
  caps.all (fun x => sc.names.lookup x == some .free && osc.names.lookup x == some .cell && !(x == ("__debug__" : Str)) && !(x == ("__classdict__" : Str)))
theorem csb_cs {osc sc : Scope} {caps : List Str} (h : csb osc sc caps = true) : CS osc sc caps := by
  unfold csb at h
  simp only [Bool.and_eq_true, List.all_eq_true, beq_iff_eq, bne_iff_ne, Bool.or_eq_true, List.contains_iff_mem, Bool.not_eq_true'] at h
  obtain ⟨⟨⟨⟨h1, h2⟩, h3⟩, h4⟩, h5⟩ := h
  refine ⟨h1, h2, fun x hx e => (h3 x hx).resolve_left fun z => z e, fun x hx e => ((h4 x hx).resolve_left fun z => z e).1, fun x hx e => ((h4 x hx).resolve_left fun z => z e).2, fun x hx => ?_⟩
  obtain ⟨⟨⟨a, b⟩, c⟩, d⟩ := h5 x hx
  exact ⟨a, b, c, d⟩
theorem CS.of {env : Env} {osc sc : Scope} {caps : List Str} (h : env.scope = osc) (k : csb osc sc caps = true) : CS env.scope sc caps := h ▸ csb_cs k
theorem turnQ_nextP {Inv Po : St → Prop} {Q : AFl → St → Prop} {σ : St} (hP : ∀ σ, Inv σ → Po σ) (h : Inv σ) : turnQ Po Q .next σ := hP _ h
theorem turnQ_contP {Inv Po : St → Prop} {Q : AFl → St → Prop} {σ : St} (hP : ∀ σ, Inv σ → Po σ) (h : Inv σ) : turnQ Po Q .cont σ := hP _ h
theorem turnQ_next {Inv : St → Prop} {Q : AFl → St → Prop} {σ : St} (h : Inv σ) : turnQ Inv Q .next σ := h
theorem turnQ_cont {Inv : St → Prop} {Q : AFl → St → Prop} {σ : St} (h : Inv σ) : turnQ Inv Q .cont σ := h
theorem turnQ_ret {Inv : St → Prop} {Q : AFl → St → Prop} {σ : St} {v : AV} (h : Q (.ret v) σ) : turnQ Inv Q (.ret v) σ := h
theorem caps_look {m : Str → Option AV} {caps : List (Str × AV)} (hcap : ∀ p ∈ caps, m p.1 = some p.2) {p : Str × AV} (hp : p ∈ caps) : bindM caps p.1 = some p.2 := by
  have look : ∀ (cs : List (Str × AV)) (m' : Str → Option AV), (∀ q ∈ cs, m q.1 = some q.2) → (p ∈ cs ∨ m' p.1 = some p.2) → cs.foldl (fun m p => put m p.1 p.2) m' p.1 = some p.2 := by
    intro cs
    induction cs with
    | nil => intro m' _ h; exact h.resolve_left (fun z => nomatch z)
    | cons c cs ih =>
      intro m' hq h
      refine ih _ (fun q hq' => hq q (.tail _ hq')) ?_
      by_cases z : p.1 = c.1
      · right
        have e1 := hcap p hp
        have e2 := hq c (.head _)
        rw [z, e2] at e1
        exact (if_pos z).trans e1
      · rcases h with h | h
        · rcases List.mem_cons.mp h with rfl | h
          · exact absurd rfl z
          · exact .inl h
        · right; exact (if_neg z).trans h
  exact look caps _ hcap (.inl hp)
theorem cut_new {H : AH} {S : List Addr} {a : Addr} {o : AObj} (n : H a = none) : Le (cut H S) (cut (upd H a o) S) := fun b ob e => by
  unfold cut at e ⊢
  split at e
  · cases e
  · rename_i q; rw [if_neg q, upd_ne _ _ (fun z => by rw [z, n] at e; cases e)]; exact e
theorem cut_upd_in {H : AH} {S : List Addr} {a : Addr} {o : AObj} (n : a ∈ S) : cut (upd H a o) S = cut H S := by
  funext b; unfold cut
  split
  · rfl
  · rename_i q; rw [upd_ne _ _ (fun z => q (by rw [z]; exact n))]
theorem Keep.cons {S : List Addr} {H H' : AH} {D : Addr} (k : Keep S H H') : Keep (D :: S) H H' := k.mono fun _ h => .tail _ h
theorem Keep.alive {S : List Addr} {H H' : AH} {a : Addr} (k : Keep [] H H') (n : H a ≠ none) : H' a ≠ none := by
  cases e : H a with
  | none => exact absurd e n
  | some o => rw [k.le _ _ e]; exact Option.some_ne_none _
section
variable {G : Md} {A : Around} {env : Env} {σ : St} {pos : Pos}
theorem for_list {target : Expr} {body : List Stmt} {Q : AFl → St → Prop} {a : Addr} {xs : List AV} (Inv : Nat → St → Prop) (hl : σ.H a = some (.list xs)) (h0 : Inv 0 σ) (ok : ∀ i σ', Inv i σ' → σ'.H a = some (.list xs))
    (turn : ∀ i (Po : St → Prop), (∀ σ, Inv (i + 1) σ → Po σ) → ∀ v σ', i < xs.length → xs[i]? = some v → Inv i σ' → WA G A env target v (WS G A env body (turnQ Po Q)) σ') (done : ∀ σ', Inv xs.length σ' → Q .next σ') : FORL G A env target body Q (.ref a) σ :=
  ⟨a, _, _, _, rfl, .list hl, Inv, h0, fun i σ' _ h => ok i σ' h, fun i v σ' hi hp h => turn i (Inv (i + 1)) (fun _ h => h) v σ' hi hp h, done⟩
theorem for_rng {target : Expr} {body : List Stmt} {Q : AFl → St → Prop} {a : Addr} {n : Nat} (Inv : Nat → St → Prop) (hl : σ.H a = some (.rng n)) (hn : n ≤ 1000) (h0 : Inv 0 σ)
    (turn : ∀ i (Po : St → Prop), (∀ σ, Inv (i + 1) σ → Po σ) → ∀ σ', i < n → Inv i σ' → WA G A env target (.int i) (WS G A env body (turnQ Po Q)) σ') (done : ∀ σ', Inv n σ' → Q .next σ') : FORL G A env target body Q (.ref a) σ :=
  ⟨a, _, _, _, rfl, .rng hl (by lia), Inv, h0, fun i σ' _ h => trivial, fun i v σ' hi hp h => by subst hp; exact turn i (Inv (i + 1)) (fun _ h => h) σ' hi h, done⟩
/-- a comprehension, item by item -/
theorem comp_map {scope osc : Scope} {elt target : Expr} {cn : List Str} {K : Addr → St → Prop} {a : Addr} {n : Nat} {P : Nat → AV → Prop} {Ok : AH → Prop} (caps : List (Str × AV)) (S : List Addr) (J : AH → Prop) (R : Nat → AV → AH → Prop) (ov : Over σ a n P Ok) (hsc : env.scope = osc) (hcn : caps.map (·.1) = cn) (hcap : ∀ p ∈ caps, σ.m p.1 = some p.2)
    (alive : Alive S σ.H) (hOk : ∀ H', Keep S σ.H H' → J H' → Ok H') (j0 : J σ.H) (hJ : ∀ H D o, σ.H D = none → J H → J (upd H D o)) (mono : ∀ i v F F', Le F F' → R i v F → R i v F') (hn : n ≤ 1000)
    (turn : ∀ D i v cenv (σ' : St), σ.H D = none → σ'.H D ≠ none → EnvOK cenv → cenv.scope = relabelS scope osc → i < n → P i v → Keep S σ.H σ'.H → J σ'.H → (∀ p ∈ caps, σ'.m p.1 = some p.2) →
      ∀ Po : AV → St → Prop, (∀ u σ₃, (Keep S σ'.H σ₃.H ∧ J σ₃.H ∧ R i u (cut σ₃.H (D :: S)) ∧ (∀ p ∈ caps, σ₃.m p.1 = some p.2)) → Po u σ₃) → WA G A cenv target v (WE G A cenv elt Po) σ')
    (done : ∀ D H' ys, σ.H D = none → Keep S σ.H H' → J H' → H' D = some (.list ys) → ys.length = n → (∀ i u, ys[i]? = some u → R i u (cut H' (D :: S))) → K D ⟨H', σ.m⟩) :
    COMP1 G A env scope elt target cn K (.ref a) σ := by
  refine ⟨a, n, P, Ok, rfl, ov, caps, hcn, hcap, fun D nD => ⟨fun i σ' => (∀ p ∈ caps, σ'.m p.1 = some p.2) ∧ Keep S σ.H σ'.H ∧ J σ'.H ∧ ∃ ys, σ'.H D = some (.list ys) ∧ ys.length = i ∧ ∀ j u, ys[j]? = some u → R j u (cut σ'.H (D :: S)), ?_, ?_, fun σ' h => h.1, ?_, ?_⟩⟩
  · refine ⟨fun p hp => ?_, Keep.refl.new nD, hJ _ _ _ nD j0, [], upd_same .., rfl, fun j u e => by simp at e⟩
    exact caps_look hcap hp
  · exact fun i σ' _ h => hOk _ h.2.1 h.2.2.1
  · rintro cenv eo hs i v σ' hi hp ⟨hc, hk, hj, ys, hD, hl, hR⟩
    refine fun u eu => ?_
    refine WF.mono (turn D i v cenv σ' nD (by rw [hD]; exact Option.some_ne_none _) eo (hs.trans (relabelS_eq hsc)) hi hp hk hj hc _ (fun _ _ h => h) u eu) fun _ σ₂ w => rest1_ok (WF.mono w ?_)
    rintro r σ₃ ⟨k3, j3, r3, c3⟩
    have nS : D ∉ S := alive.nin nD
    have hD3 := k3.get hD nS
    refine ⟨ys, hD3, by rw [sizeLine_eq]; lia, c3, (hk.trans k3).own nD, hJ _ _ _ nD j3, _, upd_same .., by simp [hl], fun j u e => ?_⟩
    rw [cut_upd_in (List.mem_cons_self ..)]
    by_cases q : j < ys.length
    · rw [List.getElem?_append_left q] at e
      exact mono _ _ _ _ (cut_keep k3.cons) (hR j u e)
    · have q2 : j = ys.length := by
        rcases Nat.lt_or_ge j (ys ++ [abs r]).length with z | z
        · rw [List.length_append] at z; simp at z; lia
        · rw [List.getElem?_eq_none z] at e; cases e
      subst q2
      simp at e
      subst e
      rw [hl]; exact r3
  · rintro σ' ⟨hc, hk, hj, ys, hD, hl, hR⟩
    exact done D σ'.H ys nD hk hj hD hl hR
/-- two fors, the second over a list made by the first's item, its items kept as they are -/
theorem comp_flat {scope osc : Scope} {target i2 elt it1 : Expr} {x : Str} {p1 p2 cpos : Pos} {cn : List Str} {K : Addr → St → Prop} {a : Addr} {n : Nat} {P : Nat → AV → Prop} {Ok : AH → Prop} (caps : List (Str × AV)) (L : Nat → List AV) (ov : Over σ a n P Ok) (hsc : env.scope = osc) (hcn : caps.map (·.1) = cn) (hcap : ∀ p ∈ caps, σ.m p.1 = some p.2)
    (hh : A.handled = none) (hf : ∀ env x, foldedSetIterable i2 env x = pure x) (hx : okParam (relabelS scope osc) x = true) (hxc : ∀ p ∈ caps, p.1 ≠ x)
    (hOk : ∀ H', Keep [] σ.H H' → Ok H') (hn : n ≤ 1000) (hL : ∀ i, (L i).length ≤ 1000)
    (turn : ∀ D i v cenv (σ' : St), σ.H D = none → σ'.H D ≠ none → EnvOK cenv → cenv.scope = relabelS scope osc → i < n → P i v → Keep [] σ.H σ'.H → (∀ p ∈ caps, σ'.m p.1 = some p.2) →
      WA G A cenv target v (WE G A cenv i2 (fun u σ₃ => ∃ l, u = .ref l ∧ Keep [] σ'.H σ₃.H ∧ l ≠ D ∧ σ₃.H l = some (.list (L i)) ∧ (∀ p ∈ caps, σ₃.m p.1 = some p.2))) σ')
    (done : ∀ D H', σ.H D = none → Keep [] σ.H H' → H' D = some (.list ((List.range n).flatMap L)) → K D ⟨H', σ.m⟩) :
    COMP G A env scope target cn (rest2 (.ListComp (.Name x p1) [⟨target, it1, [], 0⟩, ⟨.Name x p2, i2, [], 0⟩] scope cpos) i2) K (.ref a) σ := by
  refine ⟨a, n, P, Ok, rfl, ov, caps, hcn, hcap, fun D nD => ⟨fun i σ' => (∀ p ∈ caps, σ'.m p.1 = some p.2) ∧ Keep [] σ.H σ'.H ∧ σ'.H D = some (.list ((List.range i).flatMap L)), ?_, ?_, fun σ' h => h.1, ?_, ?_⟩⟩
  · refine ⟨fun p hp => ?_, Keep.refl.new nD, upd_same ..⟩
    exact caps_look hcap hp
  · exact fun i σ' _ h => hOk _ h.2.1
  · rintro cenv eo hs i v σ' hi hp ⟨hc, hk, hD⟩
    have hs' := hs.trans (relabelS_eq hsc)
    refine fun u eu => ?_
    refine WF.mono (turn D i v cenv σ' nD (by rw [hD]; exact Option.some_ne_none _) eo hs' hi hp hk hc u eu) fun _ σ₂ w => rest2_ok hh (hf cenv) (WF.mono w ?_)
    rintro r σ₃ ⟨l, rl, k3, ne, hl, c3⟩
    have hD3 := k3.get hD (fun q => nomatch q)
    have sz : ∀ m ≤ 1000, ((List.range m).flatMap L).length ≤ m * 1000 := by
      intro m
      induction m with
      | zero => intro _; simp
      | succ m ih =>
        intro hm
        rw [List.range_succ, List.flatMap_append, List.length_append]
        have := ih (by lia)
        have := hL m
        simp only [List.flatMap_cons, List.flatMap_nil, List.append_nil]
        lia
    have szi := sz i (by lia)
    have szL := hL i
    refine ⟨l, (L i).length, _, _, rl, .list hl, fun j σ' => (∀ p ∈ caps, σ'.m p.1 = some p.2) ∧ Keep [] σ.H σ'.H ∧ σ'.H l = some (.list (L i)) ∧ σ'.H D = some (.list ((List.range i).flatMap L ++ (L i).take j)), ?_, ?_, ?_, ?_⟩
    · exact ⟨c3, hk.trans k3, hl, by simpa using hD3⟩
    · exact fun j σ' _ h => h.2.2.1
    · rintro j v' σ₄ hj hv ⟨c4, k4, hl4, hD4⟩
      have hv' : (L i)[j]? = some v' := hv
      have sx : Sto cenv x := by
        unfold okParam at hx
        simp only [Bool.and_eq_true, Bool.or_eq_true, beq_iff_eq, Bool.not_eq_true'] at hx
        exact ⟨hx.1.1.imp (fun e => by unfold Env.kindOf; rw [hs']; exact e) (fun e => by unfold Env.kindOf; rw [hs']; exact e), hx.1.2, hx.2⟩
      refine wa_Name eo sx (we_name eo (if_pos rfl) ⟨_, hD4, ?_, ?_, k4.own nD, ?_, ?_⟩)
      · rw [sizeLine_eq, List.length_append, List.length_take]; lia
      · intro p hp
        show put σ₄.m x v' p.1 = some p.2
        unfold put
        rw [if_neg (hxc p hp)]
        exact c4 p hp
      · exact (upd_ne _ _ ne).trans hl4
      · show upd σ₄.H D _ D = _
        rw [upd_same, List.append_assoc]
        congr 3
        rw [List.take_add_one, hv']; rfl
    · rintro σ₄ ⟨c4, k4, hl4, hD4⟩
      refine ⟨c4, k4, ?_⟩
      rw [hD4, List.take_of_length_le (Nat.le_refl _), List.range_succ, List.flatMap_append]
      simp
  · rintro σ' ⟨hc, hk, hD⟩
    exact done D σ'.H nD hk hD
end
end Mine
namespace Mine
noncomputable def capsOf (sc : Scope) : List Str := (sc.names.filter fun p => p.2 == .free).map (·.1)
section
variable {G : Md} {A : Around} {env : Env} {σ : St} {pos : Pos} {osc : Scope}
noncomputable abbrev kac (x : Str) (Q : AFl → St → Prop) : Addr → St → Prop := fun D => kas x Q (.ref D)
noncomputable abbrev klc (Q : AV → St → Prop) : Addr → St → Prop := fun D => Q (.ref D)
theorem we_LC {elt target iter : Expr} {scope : Scope} {Q : AV → St → Prop} (hsc : env.scope = osc) (cs : csb osc scope (capsOf scope) = true) (hh : A.handled = none) (eo : EnvOK env) (hf : ∀ x, foldedSetIterable iter env x = pure x)
    (h : WE G A env iter (COMP1 G A env scope elt target (capsOf scope) (klc Q)) σ) : WE G A env (.ListComp elt [⟨target, iter, [], 0⟩] scope pos) Q σ := we_ListComp (CS.of hsc cs) hh eo hf h
theorem wx_AC {elt target iter : Expr} {scope : Scope} {x : Str} {pos' cpos : Pos} {Q : AFl → St → Prop} (hsc : env.scope = osc) (cs : csb osc scope (capsOf scope) = true) (hh : A.handled = none) (eo : EnvOK env) (hx : Sto env x) (hf : ∀ x, foldedSetIterable iter env x = pure x)
    (hsw : swapsWith (.ListComp elt [⟨target, iter, [], 0⟩] scope cpos) (some (.Name x pos')) pos.line env = pure true)
    (h : WE G A env iter (COMP1 G A env scope elt target (capsOf scope) (kac x Q)) σ) : WX G A env (.Assign [.Name x pos'] (.ListComp elt [⟨target, iter, [], 0⟩] scope cpos) pos) Q σ := wx_AssignC (CS.of hsc cs) hh eo hx hf hsw h
theorem we_LC2 {elt target iter t2 i2 : Expr} {scope : Scope} {Q : AV → St → Prop} (hsc : env.scope = osc) (cs : csb osc scope (capsOf scope) = true) (hh : A.handled = none) (eo : EnvOK env) (hf : ∀ x, foldedSetIterable iter env x = pure x)
    (h : WE G A env iter (COMP G A env scope target (capsOf scope) (rest2 (.ListComp elt [⟨target, iter, [], 0⟩, ⟨t2, i2, [], 0⟩] scope pos) i2) (klc Q)) σ) : WE G A env (.ListComp elt [⟨target, iter, [], 0⟩, ⟨t2, i2, [], 0⟩] scope pos) Q σ := we_ListComp2 (CS.of hsc cs) hh eo hf h
theorem wx_AC2 {elt target iter t2 i2 : Expr} {scope : Scope} {x : Str} {pos' cpos : Pos} {Q : AFl → St → Prop} (hsc : env.scope = osc) (cs : csb osc scope (capsOf scope) = true) (hh : A.handled = none) (eo : EnvOK env) (hx : Sto env x) (hf : ∀ x, foldedSetIterable iter env x = pure x)
    (hsw : swapsWith (.ListComp elt [⟨target, iter, [], 0⟩, ⟨t2, i2, [], 0⟩] scope cpos) (some (.Name x pos')) pos.line env = pure true)
    (h : WE G A env iter (COMP G A env scope target (capsOf scope) (rest2 (.ListComp elt [⟨target, iter, [], 0⟩, ⟨t2, i2, [], 0⟩] scope cpos) i2) (kac x Q)) σ) : WX G A env (.Assign [.Name x pos'] (.ListComp elt [⟨target, iter, [], 0⟩, ⟨t2, i2, [], 0⟩] scope cpos) pos) Q σ := wx_AssignC2 (CS.of hsc cs) hh eo hx hf hsw h
/-- with a test -/
theorem wx_ACif {elt target iter c : Expr} {scope : Scope} {x : Str} {pos' cpos : Pos} {Q : AFl → St → Prop} (hsc : env.scope = osc) (cs : csb osc scope (capsOf scope) = true) (hh : A.handled = none) (eo : EnvOK env) (hx : Sto env x) (hf : ∀ x, foldedSetIterable iter env x = pure x)
    (hsw : swapsWith (.ListComp elt [⟨target, iter, [c], 0⟩] scope cpos) (some (.Name x pos')) pos.line env = pure true)
    (h : WE G A env iter (COMP G A env scope target (capsOf scope) (restIf elt c) (kac x Q)) σ) : WX G A env (.Assign [.Name x pos'] (.ListComp elt [⟨target, iter, [c], 0⟩] scope cpos) pos) Q σ :=
  swap_comp (CS.of hsc cs) hh eo hx hf hsw (fun cenv I D => turn_if elt target iter c scope cpos (.ref I) .none D cenv) h
end
theorem mxK (ks : List Kd) (k : Kd) : (ks.foldl (fun (m : Nat) k => max m (k.o + 1)) (k.o + 1)) = (ks.foldl (fun a b => if a.o ≤ b.o then b else a) k).o + 1 := by
  induction ks generalizing k with
  | nil => rfl
  | cons b r ih =>
    rw [List.foldl_cons, List.foldl_cons]
    by_cases q : k.o ≤ b.o
    · rw [if_pos q, Nat.max_eq_right (by lia)]; exact ih b
    · rw [if_neg q, Nat.max_eq_left (by lia)]; exact ih k
theorem hi_cons {k : Kd} {ks : List Kd} : hi (k :: ks) = ks.foldl (fun a b => if a.o ≤ b.o then b else a) k := by
  unfold hi
  rw [List.foldl_cons, if_pos (by cases k <;> decide)]
theorem mx_hi {ks : List Kd} (h : ks ≠ []) : ks.foldl (fun (m : Nat) k => max m (k.o + 1)) 0 = (hi ks).o + 1 := by
  cases ks with
  | nil => exact absurd rfl h
  | cons k ks => rw [List.foldl_cons, hi_cons, ← mxK]; simp
theorem top7_at (k : Kd) : top7[k.o + 1]? = some (.str k.s) := by cases k <;> rfl
end Mine
namespace Mine
theorem look_eq {m : Str → Option AV} {x : Str} {v w : AV} (h : v = w) : put m x v x = some w := by rw [← h]; exact look_same
theorem ex_none {P : Prop} (h : P) : (∀ a : Addr, AV.none ≠ .ref a) ∧ P := ⟨fun a e => (nomatch e), h⟩
section
variable {G : Md} {A : Around} {env : Env} {σ : St} {pos : Pos} {osc : Scope}
theorem was_cons {t : Expr} {ts : List Expr} {v : AV} {vs : List AV} {Q : St → Prop} (h : WA G A env t v (WAs G A env ts vs Q) σ) : WAs G A env (t :: ts) (v :: vs) Q σ := h
theorem was_nil {Q : St → Prop} (h : Q σ) : WAs G A env [] [] Q σ := h
theorem comp_if1 {scope : Scope} {elt target c : Expr} {cn : List Str} {K : Addr → St → Prop} {a : Addr} {v : AV} (ys : List AV) (hl : σ.H a = some (.list [v])) (hcn : [] = cn) (hsc : env.scope = osc)
    (turn : ∀ D cenv (σ' : St), σ.H D = none → EnvOK cenv → cenv.scope = relabelS scope osc → Keep [] σ.H σ'.H → σ'.H D = some (.list []) →
      WA G A cenv target v (fun σ₂ => WB G A cenv c (fun b σ₃ => if b then WE G A cenv elt (APP D (fun σ₄ => Keep [] σ.H σ₄.H ∧ σ₄.H D = some (.list ys))) σ₃ else (Keep [] σ.H σ₃.H ∧ σ₃.H D = some (.list ys))) σ₂) σ')
    (done : ∀ D H', σ.H D = none → Keep [] σ.H H' → H' D = some (.list ys) → K D ⟨H', σ.m⟩) : COMP G A env scope target cn (restIf elt c) K (.ref a) σ := by
  subst hcn
  refine ⟨a, _, _, _, rfl, .list hl, [], rfl, ⟨fun _ h => (nomatch h), fun D nD => ⟨fun i σ' => Keep [] σ.H σ'.H ∧ σ'.H D = some (.list (if i = 0 then [] else ys)), ⟨Keep.refl.new nD, upd_same ..⟩, fun i σ' _ h => h.1.le _ _ hl, fun σ' h _ q => (nomatch q), ?_, fun σ' h => done D σ'.H nD h.1 h.2⟩⟩⟩
  rintro cenv eo hs i v' σ' hi hp ⟨k, hD⟩
  have i0 : i = 0 := by simpa using hi
  subst i0
  cases hp
  refine fun u eu => WF.mono (turn D cenv σ' nD eo (hs.trans (relabelS_eq hsc)) k hD u eu) fun _ σ₂ w => restIf_ok w
end
end Mine
namespace Mine
section
variable {G : Md} {A : Around} {env : Env} {σ : St} {pos : Pos} {osc : Scope}
noncomputable def swb (osc scope : Scope) (t : Str) (p cp : Pos) : Bool := osc.kind == .function && osc.names.lookup t == some .local && p.line == cp.line && !(scope.names.any fun (n, k) => n == t && (k == .local || k == .cell))
theorem swaps_sc {elt : Expr} {gens : List Comprehension} {scope : Scope} {cp p : Pos} {t : Str} {line : Nat} (eo : EnvOK env) (hsc : env.scope = osc) {b : Bool} (h : swb osc scope t p cp = b) : swapsWith (.ListComp elt gens scope cp) (some (.Name t p)) line env = pure b := by
  subst h
  subst hsc
  have e : env.blockKind = env.scope.kind := by
    unfold Env.blockKind
    rw [eo.kind]; rfl
  show (pure (env.blockKind == .function && env.kindOf t == some .local && p.line == (Expr.pos (.ListComp elt gens scope cp)).line && !(scope.names.any fun (n, k) => n == t && (k == .local || k == .cell))) : Sem Bool) = _
  rw [e]; rfl
end
end Mine
namespace Mine
theorem ofS_ne (a b : String) : (Str.ofString a ≠ Str.ofString b) = (a ≠ b) := by show (¬ _) = (¬ _); rw [ofS_eq]
section
variable {G : Md} {A : Around} {env : Env} {σ : St} {pos : Pos} {osc : Scope} {H : AH}
noncomputable abbrev kex (Q : AFl → St → Prop) : AV → St → Prop := fun _ σ => Q .next σ
theorem wx_ExprA {e : Expr} {Q : AFl → St → Prop} (eo : EnvOK env) (h : WE G A env e (kex Q) σ) (hs : swapsWith e none pos.line env = pure false) : WX G A env (.Expr e pos) Q σ := fun s hs' =>
  wpAny_Expr_any (WF.go0 hs' h fun v s₁ σ₁ S₁ X₁ h₁ => ⟨σ₁, S₁, X₁, h₁⟩) (interactive_fn eo) hs
theorem sub_listA {value slice : Expr} {l : Addr} {xs : List AV} {k : Int} {x : AV} {Q : AV → St → Prop} {H : AH} {m : Str → Option AV} (hl : H l = some (.list xs)) (h0 : 0 ≤ k) (hk : k < 2 ^ 63) (hx : xs[k.toNat]? = some x) (h : Q x ⟨H, m⟩) (ns : NoSl slice := by exact fun _ _ => rfl) : SUB G A env value slice (.ref l) (.int k) Q ⟨H, m⟩ := sub_list ns hl h0 hk hx h
theorem sub_tupA {value slice : Expr} {l : Addr} {xs : List AV} {k : Int} {x : AV} {Q : AV → St → Prop} {H : AH} {m : Str → Option AV} (hl : H l = some (.tup xs)) (h0 : 0 ≤ k) (hk : k < 2 ^ 63) (hx : xs[k.toNat]? = some x) (h : Q x ⟨H, m⟩) (ns : NoSl slice := by exact fun _ _ => rfl) : SUB G A env value slice (.ref l) (.int k) Q ⟨H, m⟩ := sub_tup ns hl h0 hk hx h
theorem sub_negA {value slice : Expr} {l : Addr} {xs : List AV} {k : Int} {x : AV} {Q : AV → St → Prop} (hl : σ.H l = some (.list xs)) (h0 : k < 0) (h1 : -(xs.length : Int) ≤ k) (h2 : -(2 ^ 63) ≤ k) (hx : xs[(k + xs.length).toNat]? = some x) (h : Q x σ) (ns : NoSl slice := by exact fun _ _ => rfl) : SUB G A env value slice (.ref l) (.int k) Q σ := sub_neg ns hl h0 h1 h2 hx h
theorem sub_strA {value slice : Expr} {x : Str} {i : Int} {Q : AV → St → Prop} (hr : fitsSsize i = true) (h1 : -(x.length : Int) ≤ i) (h2 : i < x.length) (h : Q (.str (Txt.item x i)) σ) (ns : NoSl slice := by exact fun _ _ => rfl) : SUB G A env value slice (.str x) (.int i) Q σ := sub_str ns hr h1 h2 h
theorem sub_dictA {value slice : Expr} {d : Addr} {x : Str} {es : List (Str × AV)} {v : AV} {Q : AV → St → Prop} (hd : σ.H d = some (.dict es)) (hx : es.lookup x = some v) (h : Q v σ) (ns : NoSl slice := by exact fun _ _ => rfl) : SUB G A env value slice (.ref d) (.str x) Q σ := sub_dict ns hd hx h
/-- in an abstract list of texts -/
theorem VObj.cut {H : AH} {S : List Addr} {x d i : Addr} {k : Str} {av : AV} {b c : Bool} (v : VObj H x d k i av b c) (nx : x ∉ S) (nd : d ∉ S) : IsVec (cut H S) x k i av := ⟨d, b, c, cut_at v.x nx, cut_at v.d nd⟩
theorem rv_vec {S : List Addr} {y d l : Addr} {k : Kd} {av : AV} {b c : Bool} {xs : List Vv} {avs : List AV} {nm : Option (List (Option Str))} (v : VObj H y d k.s l av b c) (hl : H l = some (.list avs)) (r : RN (cut H S) nm av) (hx : RVs (cut H S) xs avs) (ny : y ∉ S) (nd : d ∉ S) (nl : l ∉ S) : RV (cut H S) (.vec k xs nm) (.ref y) :=
  .vec (v.cut ny nd) (cut_at hl nl) r hx.1 hx.2
theorem Keep.fresh {S : List Addr} {H H' : AH} {a : Addr} (k : Keep [] H H') (n : H' a = none) : H a = none := by
  cases q : H a with
  | none => rfl
  | some o => rw [k.le _ _ q] at n; cases n
theorem RVs.one {F : AH} {x : Vv} {a : AV} (r : RV F x a) : RVs F [x] [a] := ⟨rfl, fun j v b e1 e2 => by
  match j with
  | 0 => cases e1; cases e2; exact r
  | j + 1 => simp at e1⟩
theorem knull (k : Kd) : ¬ k.s = "NULL" := by cases k <;> simp [Kd.s, ofS_eq]
theorem klist (k : Kd) : decide (k.s = Str.ofString "list") = decide (k = .ls) := by cases k <;> simp [Kd.s, ofS_eq]
/-- tuples of a tag and a value -/
noncomputable def RTs (Rel : AH → Vv → AV → Prop) (F : AH) (ps : List (Option Str × Vv)) (as : List AV) : Prop := ps.length = as.length ∧ ∀ (j : Nat) p a, ps[j]? = some p → as[j]? = some a → ∃ t b, a = .ref t ∧ F t = some (.tup [ostr p.1, b]) ∧ Rel F p.2 b
theorem list_at_len {α β : Type} {xs : List α} {ys : List β} {i : Nat} {y : β} (h : xs.length = ys.length) (e : ys[i]? = some y) : ∃ x, xs[i]? = some x := by
  have : i < ys.length := by
    rcases Nat.lt_or_ge i ys.length with q | q
    · exact q
    · rw [List.getElem?_eq_none q] at e; cases e
  exact ⟨xs[i], List.getElem?_eq_getElem (by lia)⟩
theorem take_snoc {α : Type} {xs : List α} {i : Nat} {x : α} (e : xs[i]? = some x) : xs.take (i + 1) = xs.take i ++ [x] := by rw [List.take_add_one, e]; rfl
theorem knl_i {Q : AV → St → Prop} {vs : List AV} {H : AH} {m : Str → Option AV} (hz : Nat.ble vs.length 1000 = true) (h : ∀ a, H a = none → Q (.ref a) ⟨upd H a (.list vs), m⟩) : knl Q vs ⟨H, m⟩ := ⟨small_len (Nat.le_of_ble_eq_true hz), h⟩
theorem knt_i {Q : AV → St → Prop} {vs : List AV} {H : AH} {m : Str → Option AV} (hz : Nat.ble vs.length 1000 = true) (h : ∀ a, H a = none → Q (.ref a) ⟨upd H a (.tup vs), m⟩) : knt Q vs ⟨H, m⟩ := ⟨small_len (Nat.le_of_ble_eq_true hz), h⟩
theorem cf_refG {a : Addr} {args : List Expr} {Q : AV → St → Prop} (g : GO G) (hk : keepIn (hd.heap_39 G.w.params) (.ref a) = true) (ns : NoSt env pos args) (h : WL G A env pos args (kcv G A (.ref a) Q) σ) : CF G A env pos (.ref a) args Q σ := cf_ref g.gd (g.keep hk) ns h
theorem sml_i {α : Type} {vs : List α} {P : Prop} (hz : Nat.ble vs.length 1000 = true) (h : P) : vs.length ≤ sizeLine ∧ P := ⟨small_len (Nat.le_of_ble_eq_true hz), h⟩
theorem le_cutS {H H' : AH} {S : List Addr} (h : Le H H') : Le (cut H S) H' := (cut_le _ _).trans h
theorem get_ne {H : AH} {a b : Addr} {o : AObj} {r : Option AObj} (h : H b = r) (n : b ≠ a) : upd H a o b = r := (upd_ne _ _ n).trans h
theorem get_keep {H H' : AH} {a : Addr} {o : AObj} (k : Keep [] H H') (e : H a = some o) : H' a = some o := k.le.get e
theorem sub_listJ {value slice : Expr} {l : Addr} {xs : List AV} {j : Nat} {x : AV} {Q : AV → St → Prop} {H : AH} {m : Str → Option AV} (hl : H l = some (.list xs)) (hj : j < 2 ^ 63) (hx : xs[j]? = some x) (h : Q x ⟨H, m⟩) (ns : NoSl slice := by exact fun _ _ => rfl) : SUB G A env value slice (.ref l) (.int (j : Nat)) Q ⟨H, m⟩ := sub_list ns hl (Int.natCast_nonneg j) (by lia) (by simpa using hx) h
theorem get_map {α β : Type} {f : α → β} {l : List α} {j : Nat} {o : α} (e : l[j]? = some o) : (l.map f)[j]? = some (f o) := by rw [List.getElem?_map, e]; rfl
end
end Mine
namespace Mine
noncomputable def n3t (n : Int) : Str := if n = 0 then "0" else if n = 3 then "1.5" else "-2"
noncomputable def dtx (n d : Int) : Str := if d = 0 then (if n = 0 then "NaN" else "Inf") else n3t n
noncomputable def textV (k : Kd) : Vv → Vv
  | .int i => .str (if k = .lg then (if i = 1 then "TRUE" else "FALSE") else Str.ofString (toString i))
  | .dbl n d => .str (dtx n d)
  | v => v
noncomputable def dblV : Vv → Vv
  | .int i => .dbl i 1
  | v => v
/-- an item of kind k as an item of kind to -/
noncomputable def conv (k to : Kd) (x : Vv) : Vv := if k = to then x else match to with
  | .ls => .vec k [x] none
  | .ch => textV k x
  | .db => dblV x
  | _ => x
/-! are there names; the vectors gathered -/
mutual
noncomputable def hn (u : Bool) : Vv → Bool
  | .vec k xs nm => nm.isSome || (u && decide (k = .ls) && hns u xs)
  | .none => false
  | .int _ => false
  | .str _ => false
  | .dbl _ _ => false
  | .null => false
noncomputable def hns (u : Bool) : List Vv → Bool
  | [] => false
  | x :: xs => hn u x || hns u xs
end
mutual
noncomputable def gl (u : Bool) : Vv → List Vv
  | .vec k xs nm => if u && decide (k = .ls) then gls u xs else [.vec k xs nm]
  | .none => []
  | .int _ => []
  | .str _ => []
  | .dbl _ _ => []
  | .null => []
noncomputable def gls (u : Bool) : List Vv → List Vv
  | [] => []
  | x :: xs => gl u x ++ gls u xs
end
theorem cnts_app (u : Bool) (xs ys : List Vv) : cnts u (xs ++ ys) = cnts u xs + cnts u ys := by
  induction xs with
  | nil => simp [cnts]
  | cons x xs ih => simp [cnts, ih]; lia
theorem hns_app (u : Bool) (xs ys : List Vv) : hns u (xs ++ ys) = (hns u xs || hns u ys) := by
  induction xs with
  | nil => simp [hns]
  | cons x xs ih => simp [hns, ih, Bool.or_assoc]
theorem gls_app (u : Bool) (xs ys : List Vv) : gls u (xs ++ ys) = gls u xs ++ gls u ys := by
  induction xs with
  | nil => simp [gls]
  | cons x xs ih => simp [gls, ih]
theorem cnts_one (u : Bool) (x : Vv) : cnts u [x] = cnt u x := by simp [cnts]
theorem hns_one (u : Bool) (x : Vv) : hns u [x] = hn u x := by simp [hns]
theorem gls_one (u : Bool) (x : Vv) : gls u [x] = gl u x := by simp [gls]
/-- no more leaves than that -/
noncomputable def pw : Nat → Nat
  | 0 => 3
  | n + 1 => 3 * pw n
theorem pw_pos (n : Nat) : 3 ≤ pw n := by
  induction n with
  | zero => simp [pw]
  | succ n ih => simp [pw]; lia
theorem cnts_le {u : Bool} {b : Nat} : ∀ (xs : List Vv), (∀ x ∈ xs, cnt u x ≤ b) → cnts u xs ≤ xs.length * b
  | [], _ => by simp [cnts]
  | x :: xs, h => by
    have h1 := h x (.head _)
    have h2 := cnts_le xs fun y hy => h y (.tail _ hy)
    simp only [cnts, List.length_cons, Nat.succ_mul]
    lia
theorem cnt_le {u : Bool} : ∀ (n : Nat) (v : Vv), OkP n v → cnt u v ≤ pw n
  | 0, v, h => by
    rcases h.cases with rfl | ⟨k, xs, nm, rfl⟩
    · simp [cnt]
    · have := h.len
      have hk := h.2.2.1
      simp only [cnt, hk, false_and, if_false, pw]; exact this
  | n + 1, v, h => by
    rcases h.cases with rfl | ⟨k, xs, nm, rfl⟩
    · simp [cnt]
    · have hl := h.len
      have hp := pw_pos (n + 1)
      simp only [cnt]
      split
      · rename_i q
        obtain ⟨m, hm, hx⟩ := (q.1 ▸ h : OkP (n + 1) (.vec .ls xs nm)).ls
        cases hm
        have := cnts_le (u := u) (b := pw n) xs fun x hx' => cnt_le n x (hx x hx')
        have : xs.length * pw n ≤ 3 * pw n := Nat.mul_le_mul_right _ hl
        simp only [pw]; lia
      · lia
theorem gls_le {u : Bool} {b : Nat} : ∀ (xs : List Vv), (∀ x ∈ xs, (gl u x).length ≤ b) → (gls u xs).length ≤ xs.length * b
  | [], _ => by simp [gls]
  | x :: xs, h => by
    have h1 := h x (.head _)
    have h2 := gls_le xs fun y hy => h y (.tail _ hy)
    simp only [gls, List.length_append, List.length_cons, Nat.succ_mul]
    lia
theorem gl_le {u : Bool} : ∀ (n : Nat) (v : Vv), OkP n v → (gl u v).length ≤ pw n
  | 0, v, h => by
    rcases h.cases with rfl | ⟨k, xs, nm, rfl⟩
    · simp [gl]
    · have hk := h.2.2.1
      simp [gl, hk, pw]
  | n + 1, v, h => by
    rcases h.cases with rfl | ⟨k, xs, nm, rfl⟩
    · simp [gl]
    · have hl := h.len
      have hp := pw_pos (n + 1)
      simp only [gl]
      split
      · rename_i q
        simp only [Bool.and_eq_true, decide_eq_true_eq] at q
        obtain ⟨m, hm, hx⟩ := (q.2 ▸ h : OkP (n + 1) (.vec .ls xs nm)).ls
        cases hm
        have := gls_le (u := u) (b := pw n) xs fun x hx' => gl_le n x (hx x hx')
        have : xs.length * pw n ≤ 3 * pw n := Nat.mul_le_mul_right _ hl
        simp only [pw]; lia
      · simp; lia
end Mine
namespace Mine
theorem leafs_snoc (xs : List Str) (y base : Str) (num count : Nat) : leafs (xs ++ [y]) base num count = leafs xs base num count ++ [leafN base y (num + xs.length + 1) count] := by
  induction xs generalizing num with
  | nil => simp [leafs]
  | cons x xs ih => simp only [List.cons_append, leafs, ih, List.length_cons]; rw [show num + 1 + xs.length + 1 = num + (xs.length + 1) + 1 by lia]
theorem exs_snoc (u : Bool) : ∀ (xs : List Vv) (ns : List Str) (x : Vv) (n base : Str) (num count : Nat), xs.length = ns.length → exs u (xs ++ [x]) (ns ++ [n]) base num count = exs u xs ns base num count ++ ex u x base n (num + cnts u xs) count
  | [], [], x, n, base, num, count, _ => by simp [exs, cnts]
  | y :: xs, m :: ns, x, n, base, num, count, h => by
    simp only [List.cons_append, exs, cnts]
    rw [exs_snoc u xs ns x n base _ count (by simpa using h), List.append_assoc]
    rw [show num + (cnt u y + cnts u xs) = num + cnt u y + cnts u xs by lia]
  | [], _ :: _, _, _, _, _, _, h => by simp at h
  | _ :: _, [], _, _, _, _, _, h => by simp at h
theorem leafs_len (xs : List Str) (base : Str) (num count : Nat) : (leafs xs base num count).length = xs.length := by
  induction xs generalizing num with
  | nil => rfl
  | cons x xs ih => simp [leafs, ih]
mutual
theorem ex_len (u : Bool) : ∀ (n : Nat) (v : Vv) (b t : Str) (num count : Nat), OkP n v → (ex u v b t num count).length = cnt u v
  | n, .vec k xs nm, b, t, num, count, h => by
    simp only [ex, cnt]
    split
    · rename_i q
      obtain ⟨m, rfl, hx⟩ := (q.1 ▸ h : OkP n (.vec .ls xs nm)).ls
      exact exs_len u m xs _ _ _ _ hx (nmL_len h.nm)
    · rw [leafs_len, nmL_len h.nm]
  | _, .null, _, _, _, _, _ => rfl
  | n, .none, _, _, _, _, h => by rcases h.cases with q | ⟨_, _, _, q⟩ <;> cases q
  | n, .int _, _, _, _, _, h => by rcases h.cases with q | ⟨_, _, _, q⟩ <;> cases q
  | n, .str _, _, _, _, _, h => by rcases h.cases with q | ⟨_, _, _, q⟩ <;> cases q
  | n, .dbl _ _, _, _, _, _, h => by rcases h.cases with q | ⟨_, _, _, q⟩ <;> cases q
theorem exs_len (u : Bool) : ∀ (n : Nat) (xs : List Vv) (ns : List Str) (b : Str) (num count : Nat), (∀ x ∈ xs, OkP n x) → ns.length = xs.length → (exs u xs ns b num count).length = cnts u xs
  | n, x :: xs, m :: ns, b, num, count, h, e => by
    simp only [exs, cnts, List.length_append]
    rw [ex_len u n x b m num count (h x (.head _)), exs_len u n xs ns b _ count (fun y hy => h y (.tail _ hy)) (by simpa using e)]
  | n, [], _, _, _, _, _, _ => by simp [exs, cnts]
  | n, _ :: _, [], _, _, _, _, e => by simp at e
end
theorem nmL_ok {xs : List Vv} {nm} (h : OkN xs nm) : ∀ s ∈ nmL xs nm, s = S0 ∨ s = "p" ∨ s = "q" := by
  intro s hs
  cases nm with
  | none =>
    obtain ⟨_, _, rfl⟩ := List.mem_map.mp hs
    exact .inl rfl
  | some l =>
    obtain ⟨o, ho, rfl⟩ := List.mem_map.mp hs
    rcases h.2 o ho with rfl | rfl | rfl | rfl
    · exact .inl rfl
    · exact .inl rfl
    · exact .inr (.inl rfl)
    · exact .inr (.inr rfl)
theorem s0_len : S0.length = 0 := by decide +kernel
theorem p_len : Str.length "p" = 1 := by decide +kernel
theorem q_len : Str.length "q" = 1 := by decide +kernel
theorem dot_len : Str.length "." = 1 := by decide +kernel
theorem nmL_short {xs : List Vv} {nm} (h : OkN xs nm) : ∀ s ∈ nmL xs nm, s.length ≤ 1 := fun s hs => by
  rcases nmL_ok h s hs with rfl | rfl | rfl
  · rw [s0_len]; lia
  · rw [p_len]; lia
  · rw [q_len]; lia
theorem jb_len (b t : Str) : (jb b t).length ≤ b.length + t.length + 1 := by
  unfold jb
  split
  · rw [Str.length_append, Str.length_append, dot_len]; lia
  · split <;> lia
theorem jb_nil (b : Str) : jb b S0 = b := by simp [jb]
end Mine
namespace Mine
/-! what combine gives -/
noncomputable abbrev Pr := Option Str × Vv
noncomputable def tg (p : Pr) : Str := p.1.getD S0
noncomputable def anyN (u : Bool) (ps : List Pr) : Bool := ps.any fun p => decide (tg p ≠ S0) || hn u p.2
noncomputable def exA (u : Bool) : List Pr → Nat → List Str
  | [], _ => []
  | p :: r, num => ex u p.2 S0 (tg p) num 0 ++ exA u r (num + cnt u p.2)
noncomputable def cntA (u : Bool) (ps : List Pr) : Nat := (ps.map fun p => cnt u p.2).sum
noncomputable def glA (u : Bool) (ps : List Pr) : List Vv := ps.flatMap fun p => gl u p.2
noncomputable def vk : Vv → Kd
  | .vec k _ _ => k
  | _ => .lg
noncomputable def vx : Vv → List Vv
  | .vec _ xs _ => xs
  | _ => []
noncomputable def itemsA (K : Kd) (parts : List Vv) : List Vv := parts.flatMap fun p => (vx p).map (conv (vk p) K)
noncomputable def resV (ps : List Pr) (u w : Bool) : Vv := if glA u ps = [] then .null else .vec (hi ((glA u ps).map vk)) (itemsA (hi ((glA u ps).map vk)) (glA u ps)) (if w && anyN u ps then some ((exA u ps 0).map some) else none)
theorem exA_snoc (u : Bool) (ps : List Pr) (p : Pr) (num : Nat) : exA u (ps ++ [p]) num = exA u ps num ++ ex u p.2 S0 (tg p) (num + cntA u ps) 0 := by
  induction ps generalizing num with
  | nil => simp [exA, cntA]
  | cons q ps ih => simp only [List.cons_append, exA, ih, cntA, List.map_cons, List.sum_cons, List.append_assoc]; rw [Nat.add_assoc]
theorem cntA_snoc (u : Bool) (ps : List Pr) (p : Pr) : cntA u (ps ++ [p]) = cntA u ps + cnt u p.2 := by simp [cntA]
theorem glA_snoc (u : Bool) (ps : List Pr) (p : Pr) : glA u (ps ++ [p]) = glA u ps ++ gl u p.2 := by simp [glA]
theorem anyN_snoc (u : Bool) (ps : List Pr) (p : Pr) : anyN u (ps ++ [p]) = (anyN u ps || (decide (tg p ≠ S0) || hn u p.2)) := by simp [anyN]
theorem itemsA_snoc (K : Kd) (ps : List Vv) (p : Vv) : itemsA K (ps ++ [p]) = itemsA K ps ++ (vx p).map (conv (vk p) K) := by simp [itemsA]
structure OkA (ps : List Pr) : Prop where
  len : ps.length ≤ 4
  val : ∀ p ∈ ps, OkP 3 p.2
  tag : ∀ p ∈ ps, (tg p).length ≤ 1
mutual
theorem gl_ok (u : Bool) : ∀ (n : Nat) (v : Vv), OkP n v → ∀ p ∈ gl u v, ∃ k xs nm, p = .vec k xs nm ∧ OkP n p
  | n, .vec k xs nm, h, p, hp => by
    simp only [gl] at hp
    split at hp
    · rename_i q
      simp only [Bool.and_eq_true, decide_eq_true_eq] at q
      obtain ⟨m, rfl, hx⟩ := (q.2 ▸ h : OkP n (.vec .ls xs nm)).ls
      obtain ⟨k', xs', nm', e, o⟩ := gls_ok u m xs hx p hp
      exact ⟨k', xs', nm', e, o.up⟩
    · rw [List.mem_singleton] at hp
      subst hp
      exact ⟨_, _, _, rfl, h⟩
  | _, .null, _, p, hp => by simp [gl] at hp
  | _, .none, _, p, hp => by simp [gl] at hp
  | _, .int _, _, p, hp => by simp [gl] at hp
  | _, .str _, _, p, hp => by simp [gl] at hp
  | _, .dbl _ _, _, p, hp => by simp [gl] at hp
theorem gls_ok (u : Bool) : ∀ (n : Nat) (xs : List Vv), (∀ x ∈ xs, OkP n x) → ∀ p ∈ gls u xs, ∃ k xs nm, p = .vec k xs nm ∧ OkP n p
  | n, x :: xs, h, p, hp => by
    simp only [gls, List.mem_append] at hp
    rcases hp with hp | hp
    · exact gl_ok u n x (h x (.head _)) p hp
    · exact gls_ok u n xs (fun y hy => h y (.tail _ hy)) p hp
  | _, [], _, p, hp => by simp [gls] at hp
end
theorem glA_ok {u : Bool} {ps : List Pr} (h : OkA ps) : ∀ p ∈ glA u ps, ∃ k xs nm, p = .vec k xs nm ∧ OkP 3 p := fun p hp => by
  obtain ⟨q, hq, hp⟩ := List.mem_flatMap.mp hp
  exact gl_ok u 3 _ (h.val q hq) p hp
theorem hiF_ge (ks : List Kd) (a : Kd) : a.o ≤ (ks.foldl (fun a b => if a.o ≤ b.o then b else a) a).o ∧ ∀ k ∈ ks, k.o ≤ (ks.foldl (fun a b => if a.o ≤ b.o then b else a) a).o := by
  induction ks generalizing a with
  | nil => exact ⟨Nat.le_refl _, fun _ h => nomatch h⟩
  | cons b r ih =>
    rw [List.foldl_cons]
    by_cases q : a.o ≤ b.o
    · rw [if_pos q]
      obtain ⟨h1, h2⟩ := ih b
      refine ⟨Nat.le_trans q h1, fun k hk => ?_⟩
      rcases List.mem_cons.mp hk with rfl | hk
      · exact h1
      · exact h2 k hk
    · rw [if_neg q]
      obtain ⟨h1, h2⟩ := ih a
      refine ⟨h1, fun k hk => ?_⟩
      rcases List.mem_cons.mp hk with rfl | hk
      · lia
      · exact h2 k hk
theorem hi_ge {ks : List Kd} {k : Kd} (h : k ∈ ks) : k.o ≤ (hi ks).o := (hiF_ge ks .lg).2 k h
theorem glA_len {u : Bool} {ps : List Pr} (h : ∀ p ∈ ps, OkP 3 p.2) : (glA u ps).length ≤ ps.length * pw 3 := by
  induction ps with
  | nil => simp [glA]
  | cons p r ih =>
    have h1 := gl_le (u := u) 3 p.2 (h p (.head _))
    have h2 := ih fun q hq => h q (.tail _ hq)
    simp only [glA, List.flatMap_cons, List.length_append, List.length_cons, Nat.succ_mul] at h2 ⊢
    lia
theorem cntA_le {u : Bool} {ps : List Pr} (h : ∀ p ∈ ps, OkP 3 p.2) : cntA u ps ≤ ps.length * pw 3 := by
  induction ps with
  | nil => simp [cntA]
  | cons p r ih =>
    have h1 := cnt_le (u := u) 3 p.2 (h p (.head _))
    have h2 := ih fun q hq => h q (.tail _ hq)
    simp only [cntA, List.map_cons, List.sum_cons, List.length_cons, Nat.succ_mul] at h2 ⊢
    lia
theorem exA_len {u : Bool} {ps : List Pr} (h : ∀ p ∈ ps, OkP 3 p.2) (num : Nat) : (exA u ps num).length = cntA u ps := by
  induction ps generalizing num with
  | nil => rfl
  | cons p r ih =>
    simp only [exA, cntA, List.length_append, List.map_cons, List.sum_cons]
    rw [ex_len u 3 _ _ _ _ _ (h p (.head _)), ih (fun q hq => h q (.tail _ hq))]; rfl
theorem itemsA_le {K : Kd} {parts : List Vv} (h : ∀ p ∈ parts, (vx p).length ≤ 3) : (itemsA K parts).length ≤ parts.length * 3 := by
  induction parts with
  | nil => simp [itemsA]
  | cons p r ih =>
    have h1 := h p (.head _)
    have h2 := ih fun q hq => h q (.tail _ hq)
    simp only [itemsA, List.flatMap_cons, List.length_append, List.length_map, List.length_cons, Nat.succ_mul] at h2 ⊢
    lia
end Mine
namespace Mine
/-- the items of a list with their tags -/
noncomputable def headsV (xs : List Vv) : Option (List (Option Str)) → List Pr
  | none => xs.map fun x => (none, x)
  | some l => l.zip xs
theorem headsV_len {xs : List Vv} {nm} (h : OkN xs nm) : (headsV xs nm).length = xs.length := by
  cases nm with
  | none => simp [headsV]
  | some l => simp [headsV, List.length_zip, h.1]
theorem headsV_ok {xs : List Vv} {nm} {n : Nat} (h : OkN xs nm) (hz : xs.length ≤ 3) (hx : ∀ x ∈ xs, OkP n x) (hn : n ≤ 3) : OkA (headsV xs nm) := by
  refine ⟨by rw [headsV_len h]; lia, fun p hp => ?_, fun p hp => ?_⟩
  · cases nm with
    | none => obtain ⟨x, hx', rfl⟩ := List.mem_map.mp hp; exact (hx x hx').le hn
    | some l => exact (hx _ (List.of_mem_zip (show (p.1, p.2) ∈ l.zip xs from hp)).2).le hn
  · cases nm with
    | none => obtain ⟨x, hx', rfl⟩ := List.mem_map.mp hp; show S0.length ≤ 1; rw [s0_len]; lia
    | some l =>
      have := h.2 _ (List.of_mem_zip (show (p.1, p.2) ∈ l.zip xs from hp)).1
      unfold tg
      rcases this with e | e | e | e <;> rw [e]
      · show S0.length ≤ 1; rw [s0_len]; lia
      · show S0.length ≤ 1; rw [s0_len]; lia
      · show Str.length "p" ≤ 1; rw [p_len]; lia
      · show Str.length "q" ≤ 1; rw [q_len]; lia
theorem headsV_at0 {xs : List Vv} {j : Nat} {x : Vv} (e : xs[j]? = some x) : (headsV xs none)[j]? = some (none, x) := by simp [headsV, e]
theorem headsV_at1 {xs : List Vv} {l : List (Option Str)} {j : Nat} {x : Vv} {o : Option Str} (e : xs[j]? = some x) (eo : l[j]? = some o) : (headsV xs (some l))[j]? = some (o, x) := by
  simp [headsV, List.getElem?_zip_eq_some, e, eo]
end Mine
namespace Mine
noncomputable def lv1 (u : Bool) (x : Vv) (n : Str) (tags : List Str) (at_ : Nat) : List Leaf := if n = S0 then lv u x tags at_ else (lv u x (tags ++ [n]) at_).map (close at_ (at_ + cnt u x))
theorem lvs_snoc (u : Bool) : ∀ (xs : List Vv) (ns : List Str) (x : Vv) (n : Str) (tags : List Str) (at_ : Nat), xs.length = ns.length → lvs u (xs ++ [x]) (ns ++ [n]) tags at_ = lvs u xs ns tags at_ ++ lv1 u x n tags (at_ + cnts u xs)
  | [], [], x, n, tags, at_, _ => by simp [lvs, cnts, lv1]
  | y :: xs, m :: ns, x, n, tags, at_, h => by
    simp only [List.cons_append, lvs, cnts]
    rw [lvs_snoc u xs ns x n tags _ (by simpa using h), List.append_assoc, Nat.add_assoc]
  | [], _ :: _, _, _, _, _, h => by simp at h
  | _ :: _, [], _, _, _, _, h => by simp at h
mutual
theorem lv_len (u : Bool) : ∀ (n : Nat) (v : Vv) (tags : List Str) (at_ : Nat), OkP n v → (lv u v tags at_).length = cnt u v
  | n, .vec k xs nm, tags, at_, h => by
    simp only [lv, cnt]
    split
    · rename_i q
      obtain ⟨m, rfl, hx⟩ := (q.1 ▸ h : OkP n (.vec .ls xs nm)).ls
      exact lvs_len u m xs _ _ _ hx (nmL_len h.nm)
    · rw [List.length_map, List.length_zip, nmL_len h.nm, Nat.min_self]
  | _, .null, _, _, _ => rfl
  | n, .none, _, _, h => by rcases h.cases with q | ⟨_, _, _, q⟩ <;> cases q
  | n, .int _, _, _, h => by rcases h.cases with q | ⟨_, _, _, q⟩ <;> cases q
  | n, .str _, _, _, h => by rcases h.cases with q | ⟨_, _, _, q⟩ <;> cases q
  | n, .dbl _ _, _, _, h => by rcases h.cases with q | ⟨_, _, _, q⟩ <;> cases q
theorem lvs_len (u : Bool) : ∀ (n : Nat) (xs : List Vv) (ns : List Str) (tags : List Str) (at_ : Nat), (∀ x ∈ xs, OkP n x) → ns.length = xs.length → (lvs u xs ns tags at_).length = cnts u xs
  | n, x :: xs, m :: ns, tags, at_, h, e => by
    simp only [lvs, cnts, List.length_append]
    rw [lvs_len u n xs ns tags _ (fun y hy => h y (.tail _ hy)) (by simpa using e)]
    congr 1
    split
    · exact lv_len u n x _ _ (h x (.head _))
    · rw [List.length_map]; exact lv_len u n x _ _ (h x (.head _))
  | n, [], _, _, _, _, _ => by simp [lvs, cnts]
  | n, _ :: _, [], _, _, _, e => by simp at e
end
theorem lv1_len {u : Bool} {n : Nat} {x : Vv} {s : Str} {tags : List Str} {at_ : Nat} (h : OkP n x) : (lv1 u x s tags at_).length = cnt u x := by
  unfold lv1
  split
  · exact lv_len u n x _ _ h
  · rw [List.length_map]; exact lv_len u n x _ _ h
/-- what holds of each leaf, d deeper than tags -/
structure LOK (n : Nat) (ts : List Str) (at_ j : Nat) (l : Leaf) : Prop where
  deep : l.tags.length ≤ ts.length + n
  short : (∀ t ∈ ts, Str.length t ≤ 1) → ∀ t ∈ l.tags, Str.length t ≤ 1
  name : l.name.length ≤ 1
  sp : ∀ f b, l.sp = some (f, b) → f ≤ at_ + j
theorem lvs_at {u : Bool} {n : Nat} (ih : ∀ (x : Vv) (tags : List Str) (at_ : Nat), OkP n x → ∀ (j : Nat) l, (lv u x tags at_)[j]? = some l → LOK n tags at_ j l) :
    ∀ (xs : List Vv) (ns : List Str) (tags : List Str) (at_ : Nat), (∀ x ∈ xs, OkP n x) → (∀ s ∈ ns, s.length ≤ 1) → ∀ (j : Nat) l, (lvs u xs ns tags at_)[j]? = some l → LOK (n + 1) tags at_ j l
  | x :: xs, m :: ns, tags, at_, h, hs, j, l, e => by
    have hx := h x (.head _)
    have hm := hs m (.head _)
    have len : (if m = S0 then lv u x tags at_ else (lv u x (tags ++ [m]) at_).map (close at_ (at_ + cnt u x))).length = cnt u x := lv1_len (u := u) (s := m) (tags := tags) (at_ := at_) hx
    simp only [lvs] at e
    rcases Nat.lt_or_ge j (cnt u x) with q | q
    · rw [List.getElem?_append_left (by rw [len]; exact q)] at e
      split at e
      · have := ih x tags at_ hx j l e
        exact ⟨by have := this.deep; lia, this.short, this.name, this.sp⟩
      · rw [List.getElem?_map] at e
        obtain ⟨l', e', rfl⟩ := Option.map_eq_some_iff.mp e
        have := ih x (tags ++ [m]) at_ hx j l' e'
        refine ⟨by have := this.deep; rw [List.length_append] at this; simp only [close, List.length_cons, List.length_nil] at this ⊢; lia, fun ht => this.short fun t hm' => ?_, this.name, fun f b eq => ?_⟩
        · rcases List.mem_append.mp hm' with hm' | hm'
          · exact ht t hm'
          · rw [List.mem_singleton] at hm'; rw [hm']; exact hm
        · cases z : l'.sp with
          | none => simp only [close, z, Option.getD_none, Option.some.injEq, Prod.mk.injEq] at eq; lia
          | some p =>
            simp only [close, z, Option.getD_some, Option.some.injEq] at eq
            exact this.sp f b (by rw [z, eq])
    · rw [List.getElem?_append_right (by rw [len]; exact q), len] at e
      have := lvs_at ih xs ns tags _ (fun y hy => h y (.tail _ hy)) (fun s hs' => hs s (.tail _ hs')) _ _ e
      exact ⟨this.deep, this.short, this.name, fun f b eq => by have := this.sp f b eq; lia⟩
  | [], _, _, _, _, _, j, l, e => by simp [lvs] at e
  | _ :: _, [], _, _, _, _, j, l, e => by simp [lvs] at e
theorem lv_at (u : Bool) : ∀ (n : Nat) (v : Vv) (tags : List Str) (at_ : Nat), OkP n v → ∀ (j : Nat) l, (lv u v tags at_)[j]? = some l → LOK n tags at_ j l := by
  intro n
  induction n with
  | zero =>
    intro v tags at_ h j l e
    rcases h.cases with rfl | ⟨k, xs, nm, rfl⟩
    · simp [lv] at e
    · have hk := h.2.2.1
      simp only [lv, hk, false_and, if_false, List.getElem?_map] at e
      obtain ⟨p, ep, rfl⟩ := Option.map_eq_some_iff.mp e
      have := nmL_short h.nm _ (List.of_mem_zip (show (p.1, p.2) ∈ _ from List.mem_of_getElem? ep)).2
      exact ⟨Nat.le_refl _, fun h => h, this, fun f b eq => (nomatch eq)⟩
  | succ n ih =>
    intro v tags at_ h j l e
    rcases h.cases with rfl | ⟨k, xs, nm, rfl⟩
    · simp [lv] at e
    · simp only [lv] at e
      split at e
      · rename_i q
        obtain ⟨m, hm, hx⟩ := (q.1 ▸ h : OkP (n + 1) (.vec .ls xs nm)).ls
        cases hm
        exact lvs_at ih xs _ tags at_ hx (nmL_short h.nm) j l e
      · rw [List.getElem?_map] at e
        obtain ⟨p, ep, rfl⟩ := Option.map_eq_some_iff.mp e
        have := nmL_short h.nm _ (List.of_mem_zip (show (p.1, p.2) ∈ _ from List.mem_of_getElem? ep)).2
        exact ⟨Nat.le_add_right _ _, fun h => h, this, fun f b eq => (nomatch eq)⟩
end Mine
namespace Mine
noncomputable def tgL (p : Pr) : List Str := if tg p = S0 then [] else [tg p]
noncomputable def leavesA (u : Bool) : List Pr → Nat → List Leaf
  | [], _ => []
  | p :: r, at_ => (lv u p.2 (tgL p) at_).map (close at_ (at_ + cnt u p.2)) ++ leavesA u r (at_ + cnt u p.2)
theorem leavesA_snoc (u : Bool) (ps : List Pr) (p : Pr) (at_ : Nat) : leavesA u (ps ++ [p]) at_ = leavesA u ps at_ ++ (lv u p.2 (tgL p) (at_ + cntA u ps)).map (close (at_ + cntA u ps) (at_ + cntA u ps + cnt u p.2)) := by
  induction ps generalizing at_ with
  | nil => simp [leavesA, cntA]
  | cons q ps ih =>
    simp only [List.cons_append, leavesA, ih, cntA, List.map_cons, List.sum_cons, List.append_assoc]
    rw [Nat.add_assoc]
theorem leavesA_len {u : Bool} {ps : List Pr} (h : ∀ p ∈ ps, OkP 3 p.2) (at_ : Nat) : (leavesA u ps at_).length = cntA u ps := by
  induction ps generalizing at_ with
  | nil => rfl
  | cons p r ih =>
    simp only [leavesA, cntA, List.length_append, List.length_map, List.map_cons, List.sum_cons]
    rw [lv_len u 3 _ _ _ (h p (.head _)), ih (fun q hq => h q (.tail _ hq))]; rfl
/-- a leaf in its place -/
structure LOA (at_ : Nat) (l : Leaf) : Prop where
  deep : l.tags.length ≤ 4
  short : ∀ t ∈ l.tags, Str.length t ≤ 1
  name : l.name.length ≤ 1
  sp : ∃ f b, l.sp = some (f, b) ∧ f ≤ at_
theorem leavesA_at {u : Bool} {ps : List Pr} (h : ∀ p ∈ ps, OkP 3 p.2) (ht : ∀ p ∈ ps, (tg p).length ≤ 1) (at_ j : Nat) (l : Leaf) (e : (leavesA u ps at_)[j]? = some l) : LOA (at_ + j) l := by
  induction ps generalizing at_ j with
  | nil => simp [leavesA] at e
  | cons p r ih =>
    have len : ((lv u p.2 (tgL p) at_).map (close at_ (at_ + cnt u p.2))).length = cnt u p.2 := by rw [List.length_map, lv_len u 3 _ _ _ (h p (.head _))]
    simp only [leavesA] at e
    rcases Nat.lt_or_ge j (cnt u p.2) with q | q
    · rw [List.getElem?_append_left (by rw [len]; exact q), List.getElem?_map] at e
      obtain ⟨l', e', rfl⟩ := Option.map_eq_some_iff.mp e
      have L := lv_at u 3 p.2 (tgL p) at_ (h p (.head _)) j l' e'
      have tl : (tgL p).length ≤ 1 := by unfold tgL; split <;> simp
      have ts : ∀ t ∈ tgL p, Str.length t ≤ 1 := fun t hm => by
        unfold tgL at hm
        split at hm
        · cases hm
        · rw [List.mem_singleton] at hm; rw [hm]; exact ht p (.head _)
      refine ⟨by have := L.deep; simp only [close]; lia, L.short ts, L.name, ?_⟩
      cases z : l'.sp with
      | none => exact ⟨at_, at_ + cnt u p.2, by simp [close, z], by lia⟩
      | some fb => exact ⟨fb.1, fb.2, by simp [close, z], L.sp fb.1 fb.2 z⟩
    · rw [List.getElem?_append_right (by rw [len]; exact q), len] at e
      have := ih (fun q hq => h q (.tail _ hq)) (fun q hq => ht q (.tail _ hq)) _ _ e
      refine ⟨this.deep, this.short, this.name, ?_⟩
      obtain ⟨f, b, e1, e2⟩ := this.sp
      exact ⟨f, b, e1, by lia⟩
noncomputable def kxA (parts : List Vv) : List (Kd × Vv) := parts.flatMap fun p => (vx p).map fun x => (vk p, x)
theorem kxA_app (a b : List Vv) : kxA (a ++ b) = kxA a ++ kxA b := by simp [kxA]
theorem close_kx (f b : Nat) (ls : List Leaf) : (ls.map (close f b)).map (fun l => (l.k, l.x)) = ls.map fun l => (l.k, l.x) := by
  rw [List.map_map]; rfl
mutual
theorem lv_kx (u : Bool) : ∀ (n : Nat) (v : Vv) (tags : List Str) (at_ : Nat), OkP n v → (lv u v tags at_).map (fun l => (l.k, l.x)) = kxA (gl u v)
  | n, .vec k xs nm, tags, at_, h => by
    simp only [lv, gl]
    by_cases q : k = .ls ∧ u = true
    · obtain ⟨rfl, rfl⟩ := q
      obtain ⟨m, rfl, hx⟩ := h.ls
      simp only [and_self, if_true, Bool.true_and, decide_true]
      exact lvs_kx true m xs _ _ _ hx (nmL_len h.nm)
    · have q' : (u && decide (k = .ls)) = false := by
        cases u <;> simp at q ⊢; exact q
      rw [if_neg q, q', if_neg (by simp), List.map_map]
      have hl : xs.length = (nmL xs nm).length := (nmL_len h.nm).symm
      simp only [kxA, List.flatMap_cons, List.flatMap_nil, List.append_nil, vx, vk]
      have : ((fun l : Leaf => (l.k, l.x)) ∘ fun p : Vv × Str => (⟨k, p.1, tags, p.2, none⟩ : Leaf)) = (fun x => (k, x)) ∘ Prod.fst := rfl
      rw [this, ← List.map_map, List.map_fst_zip (by lia)]
  | _, .null, _, _, _ => by simp [lv, gl, kxA]
  | n, .none, _, _, h => by rcases h.cases with q | ⟨_, _, _, q⟩ <;> cases q
  | n, .int _, _, _, h => by rcases h.cases with q | ⟨_, _, _, q⟩ <;> cases q
  | n, .str _, _, _, h => by rcases h.cases with q | ⟨_, _, _, q⟩ <;> cases q
  | n, .dbl _ _, _, _, h => by rcases h.cases with q | ⟨_, _, _, q⟩ <;> cases q
theorem lvs_kx (u : Bool) : ∀ (n : Nat) (xs : List Vv) (ns : List Str) (tags : List Str) (at_ : Nat), (∀ x ∈ xs, OkP n x) → ns.length = xs.length → (lvs u xs ns tags at_).map (fun l => (l.k, l.x)) = kxA (gls u xs)
  | n, x :: xs, m :: ns, tags, at_, h, e => by
    simp only [lvs, gls, List.map_append, kxA_app]
    rw [lvs_kx u n xs ns tags _ (fun y hy => h y (.tail _ hy)) (by simpa using e)]
    congr 1
    split
    · exact lv_kx u n x _ _ (h x (.head _))
    · rw [close_kx]; exact lv_kx u n x _ _ (h x (.head _))
  | n, [], _, _, _, _, _ => by simp [lvs, gls, kxA]
  | n, _ :: _, [], _, _, _, e => by simp at e
end
theorem leavesA_kx {u : Bool} {ps : List Pr} (h : ∀ p ∈ ps, OkP 3 p.2) (at_ : Nat) : (leavesA u ps at_).map (fun l => (l.k, l.x)) = kxA (glA u ps) := by
  induction ps generalizing at_ with
  | nil => simp [leavesA, glA, kxA]
  | cons p r ih =>
    simp only [leavesA, List.map_append, glA, List.flatMap_cons]
    rw [close_kx, lv_kx u 3 _ _ _ (h p (.head _)), ih (fun q hq => h q (.tail _ hq)), kxA_app]; rfl
theorem leavesA_k {u : Bool} {ps : List Pr} (h : ∀ p ∈ ps, OkP 3 p.2) {at_ : Nat} {l : Leaf} (m : l ∈ leavesA u ps at_) : l.k ∈ (glA u ps).map vk := by
  have : (l.k, l.x) ∈ kxA (glA u ps) := by rw [← leavesA_kx h at_]; exact List.mem_map.mpr ⟨l, m, rfl⟩
  obtain ⟨p, hp, hx⟩ := List.mem_flatMap.mp this
  obtain ⟨x, _, e⟩ := List.mem_map.mp hx
  have e1 : vk p = l.k := congrArg Prod.fst e
  exact List.mem_map.mpr ⟨p, hp, e1⟩
theorem items_kx (K : Kd) (parts : List Vv) : itemsA K parts = (kxA parts).map fun p => conv p.1 K p.2 := by
  simp only [itemsA, kxA, List.map_flatMap, List.map_map]
  rfl
theorem leavesA_items {u : Bool} {ps : List Pr} (h : ∀ p ∈ ps, OkP 3 p.2) (at_ : Nat) (K : Kd) : (leavesA u ps at_).map (fun l => conv l.k K l.x) = itemsA K (glA u ps) := by
  rw [items_kx, ← leavesA_kx h at_, List.map_map]; rfl
/-- what the law says is due -/
noncomputable def dueV (ps : List Pr) (u w : Bool) : Vv := if glA u ps = [] then .null else .vec (hi ((glA u ps).map vk)) ((leavesA u ps 0).map fun l => conv l.k (hi ((glA u ps).map vk)) l.x) (if w && anyN u ps then some ((lnames (leavesA u ps 0) 0).map some) else none)
theorem lnames_at : ∀ (ls : List Leaf) (at_ j : Nat) (l : Leaf), ls[j]? = some l → (lnames ls at_)[j]? = some (lname l (at_ + j))
  | [], _, j, l, e => by simp at e
  | x :: r, at_, 0, l, e => by simp at e; subst e; simp [lnames]
  | x :: r, at_, j + 1, l, e => by
    simp only [List.getElem?_cons_succ] at e
    simp only [lnames, List.getElem?_cons_succ]
    rw [lnames_at r (at_ + 1) j l e]
    rw [show at_ + 1 + j = at_ + (j + 1) by lia]
theorem lnames_len : ∀ (ls : List Leaf) (at_ : Nat), (lnames ls at_).length = ls.length
  | [], _ => rfl
  | _ :: r, at_ => by simp [lnames, lnames_len r]
theorem hiF_mem (ks : List Kd) (a : Kd) : (ks.foldl (fun a b => if a.o ≤ b.o then b else a) a) = a ∨ (ks.foldl (fun a b => if a.o ≤ b.o then b else a) a) ∈ ks := by
  induction ks generalizing a with
  | nil => exact .inl rfl
  | cons b r ih =>
    rw [List.foldl_cons]
    by_cases q : a.o ≤ b.o
    · rw [if_pos q]
      rcases ih b with e | e
      · right; rw [e]; exact .head _
      · right; exact .tail _ e
    · rw [if_neg q]
      rcases ih a with e | e
      · exact .inl e
      · right; exact .tail _ e
theorem hi_mem {ks : List Kd} (h : ks ≠ []) : hi ks ∈ ks := by
  cases ks with
  | nil => exact absurd rfl h
  | cons k ks =>
    rw [hi_cons]
    rcases hiF_mem ks k with e | e
    · rw [e]; exact .head _
    · exact .tail _ e
end Mine
namespace Mine
theorem s0_empty : S0 = ⟨#[]⟩ := by decide +kernel
theorem join_nilS : join [] = S0 := by rw [s0_empty]; rfl
theorem sjoin_snoc (sep : Str) : ∀ (xs : List Str) (y : Str), xs ≠ [] → Str.join sep (xs ++ [y]) = Str.join sep xs ++ sep ++ y
  | [], _, h => absurd rfl h
  | [x], y, _ => rfl
  | x :: z :: r, y, _ => by
    have ih := sjoin_snoc sep (z :: r) y (by simp)
    show x ++ sep ++ Str.join sep ((z :: r) ++ [y]) = (x ++ sep ++ Str.join sep (z :: r)) ++ sep ++ y
    rw [ih]
    simp only [Str.append_assoc]
theorem join_eq (xs : List Str) : join xs = Str.join "." xs := StrLaws.glued_eq_join "." xs
theorem join_ne {xs : List Str} (h : xs ≠ []) (hs : ∀ t ∈ xs, t ≠ S0) : join xs ≠ S0 := fun e => by
  have l := congrArg Str.length e
  rw [s0_len] at l
  have := size_glued "." xs
  unfold join Txt.join at l
  rw [this] at l
  cases xs with
  | nil => exact absurd rfl h
  | cons x r =>
    simp only [List.map_cons, List.sum_cons] at l
    have hx := hs x (.head _)
    have : x.length = 0 := by lia
    refine hx ?_
    rw [s0_empty]
    exact Str.ext' (Array.size_eq_zero_iff.mp this)
theorem join_snoc {xs : List Str} {n : Str} (hs : ∀ t ∈ xs, t ≠ S0) (hn : n ≠ S0) : join (xs ++ [n]) = jb (join xs) n := by
  by_cases q : xs = []
  · subst q
    rw [join_nilS]
    simp [jb, hn]
    rw [join_eq]; rfl
  · have := join_ne q hs
    rw [jb, if_pos ⟨this, hn⟩, join_eq, sjoin_snoc _ _ _ q, ← join_eq]
theorem ex_tag (u : Bool) (v : Vv) (base tag : Str) (num count : Nat) : ex u v base tag num count = if tag = S0 then ex u v base S0 num count else ex u v (jb base tag) S0 0 (cnt u v) := by
  by_cases q : tag = S0
  · rw [if_pos q, q]
  · rw [if_neg q]
    cases v with
    | vec k xs nm =>
      simp only [ex, q, jb_nil, cnt, ne_eq, not_false_eq_true, if_true, not_true_eq_false, if_false]
      by_cases z : k = .ls ∧ u = true
      · simp only [z, if_true, and_self]
      · simp only [z, if_false]
    | _ => simp [ex]
theorem close_close (f b f' b' : Nat) (l : Leaf) : close f b (close f' b' l) = close f' b' l := by simp [close]
theorem lnames_app : ∀ (xs ys : List Leaf) (at_ : Nat), lnames (xs ++ ys) at_ = lnames xs at_ ++ lnames ys (at_ + xs.length)
  | [], ys, at_ => by simp [lnames]
  | x :: xs, ys, at_ => by
    simp only [List.cons_append, lnames, lnames_app xs ys, List.length_cons]
    rw [show at_ + 1 + xs.length = at_ + (xs.length + 1) by lia]
/-- one leaf's name -/
theorem lname_leaf {k : Kd} {x : Vv} {tags : List Str} {n : Str} {f b at_ num count : Nat} (hs : ∀ t ∈ tags, t ≠ S0) (hc : tags ≠ [] → at_ = f + num ∧ b = f + count ∧ num + 1 ≤ count) : lname (close f b ⟨k, x, tags, n, none⟩) at_ = leafN (join tags) n (num + 1) count := by
  have hl : lname (close f b ⟨k, x, tags, n, none⟩) at_ = (if n ≠ S0 then join (tags ++ [n]) else if tags = [] then S0 else join tags ++ (if 1 < b - f then natS (at_ - f + 1) else S0)) := rfl
  rw [hl]
  unfold leafN
  by_cases q : n = S0
  · have q2 : ¬ n ≠ S0 := fun z => z q
    rw [if_neg q2, if_neg q2]
    by_cases z : tags = []
    · rw [if_pos z, if_pos (show join tags = S0 ∨ count = 1 from .inl (by rw [z]; exact join_nilS)), z, join_nilS]
    · obtain ⟨h1, h2, h3⟩ := hc z
      have jn := join_ne z hs
      rw [if_neg z]
      by_cases c1 : count = 1
      · rw [if_pos (show join tags = S0 ∨ count = 1 from .inr c1), if_neg (show ¬ 1 < b - f by lia)]
        show join tags ++ S0 = _
        rw [s0_empty]
        exact Str.append_empty _
      · rw [if_neg (show ¬ (join tags = S0 ∨ count = 1) from fun h => h.elim jn c1), if_pos (show 1 < b - f by lia)]
        rw [show at_ - f + 1 = num + 1 by lia]
  · rw [if_pos q, if_pos q]
    exact join_snoc hs q
theorem leafs_eq {k : Kd} {tags : List Str} {f b count : Nat} (hs : ∀ t ∈ tags, t ≠ S0) : ∀ (xs : List Vv) (ns : List Str) (at_ num : Nat), xs.length = ns.length → (tags ≠ [] → at_ = f + num ∧ b = f + count ∧ num + xs.length ≤ count) →
    lnames (((xs.zip ns).map fun p => (⟨k, p.1, tags, p.2, none⟩ : Leaf)).map (close f b)) at_ = leafs ns (join tags) num count
  | [], [], _, _, _, _ => rfl
  | x :: xs, n :: ns, at_, num, hl, hc => by
    simp only [List.zip_cons_cons, List.map_cons, lnames, leafs]
    rw [lname_leaf hs fun z => ?_, leafs_eq hs xs ns (at_ + 1) (num + 1) (by simpa using hl) fun z => ?_]
    · obtain ⟨h1, h2, h3⟩ := hc z
      simp only [List.length_cons] at h3
      exact ⟨by lia, h2, by lia⟩
    · obtain ⟨h1, h2, h3⟩ := hc z
      simp only [List.length_cons] at h3
      exact ⟨h1, h2, by lia⟩
  | [], _ :: _, _, _, hl, _ => by simp at hl
  | _ :: _, [], _, _, hl, _ => by simp at hl
mutual
theorem ex_eq (u : Bool) : ∀ (n : Nat) (v : Vv) (tags : List Str) (at_ f b num count : Nat), OkP n v → (∀ t ∈ tags, t ≠ S0) → (tags ≠ [] → at_ = f + num ∧ b = f + count ∧ num + cnt u v ≤ count) → lnames ((lv u v tags at_).map (close f b)) at_ = ex u v (join tags) S0 num count
  | n, .vec k xs nm, tags, at_, f, b, num, count, h, hs, hc => by
    simp only [lv, ex, jb_nil, ne_eq, not_true_eq_false, if_false]
    by_cases z : k = .ls ∧ u = true
    · obtain ⟨rfl, rfl⟩ := z
      obtain ⟨m, rfl, hx⟩ := h.ls
      simp only [and_self, if_true]
      exact exs_eq true m xs _ tags at_ f b num count hx (nmL_len h.nm) hs (fun t => by have := hc t; simpa [cnt] using this)
    · rw [if_neg z, if_neg z]
      refine leafs_eq hs xs _ at_ num (nmL_len h.nm).symm fun t => ?_
      have := hc t
      simpa [cnt, z] using this
  | _, .null, _, _, _, _, _, _, _, _, _ => by simp [lv, ex, lnames]
  | n, .none, _, _, _, _, _, _, h, _, _ => by rcases h.cases with q | ⟨_, _, _, q⟩ <;> cases q
  | n, .int _, _, _, _, _, _, _, h, _, _ => by rcases h.cases with q | ⟨_, _, _, q⟩ <;> cases q
  | n, .str _, _, _, _, _, _, _, h, _, _ => by rcases h.cases with q | ⟨_, _, _, q⟩ <;> cases q
  | n, .dbl _ _, _, _, _, _, _, _, h, _, _ => by rcases h.cases with q | ⟨_, _, _, q⟩ <;> cases q
theorem exs_eq (u : Bool) : ∀ (n : Nat) (xs : List Vv) (ns : List Str) (tags : List Str) (at_ f b num count : Nat), (∀ x ∈ xs, OkP n x) → ns.length = xs.length → (∀ t ∈ tags, t ≠ S0) → (tags ≠ [] → at_ = f + num ∧ b = f + count ∧ num + cnts u xs ≤ count) →
    lnames ((lvs u xs ns tags at_).map (close f b)) at_ = exs u xs ns (join tags) num count
  | n, x :: xs, m :: ns, tags, at_, f, b, num, count, h, e, hs, hc => by
    have hx := h x (.head _)
    have len : ((if m = S0 then lv u x tags at_ else (lv u x (tags ++ [m]) at_).map (close at_ (at_ + cnt u x))).map (close f b)).length = cnt u x := by rw [List.length_map]; exact lv1_len (u := u) (s := m) (tags := tags) (at_ := at_) hx
    simp only [lvs, exs, List.map_append, lnames_app, len]
    rw [exs_eq u n xs ns tags (at_ + cnt u x) f b (num + cnt u x) count (fun y hy => h y (.tail _ hy)) (by simpa using e) hs fun t => by
      obtain ⟨h1, h2, h3⟩ := hc t
      simp only [cnts] at h3
      exact ⟨by lia, h2, by lia⟩]
    congr 1
    rw [ex_tag]
    by_cases q : m = S0
    · rw [if_pos q, if_pos q]
      refine ex_eq u n x tags at_ f b num count hx hs fun t => ?_
      obtain ⟨h1, h2, h3⟩ := hc t
      simp only [cnts] at h3
      exact ⟨h1, h2, by lia⟩
    · rw [if_neg q, if_neg q, ← join_snoc hs q]
      rw [show ((lv u x (tags ++ [m]) at_).map (close at_ (at_ + cnt u x))).map (close f b) = (lv u x (tags ++ [m]) at_).map (close at_ (at_ + cnt u x)) by
        rw [List.map_map]; congr 1]
      refine ex_eq u n x (tags ++ [m]) at_ at_ (at_ + cnt u x) 0 (cnt u x) hx (fun t ht => ?_) fun _ => ⟨rfl, rfl, by lia⟩
      rcases List.mem_append.mp ht with ht | ht
      · exact hs t ht
      · rw [List.mem_singleton] at ht; rw [ht]; exact q
  | n, [], _, _, _, _, _, _, _, _, _, _, _ => by simp [lvs, exs, lnames]
  | n, _ :: _, [], _, _, _, _, _, _, _, e, _, _ => by simp at e
end
theorem names_eq {u : Bool} {ps : List Pr} (h : ∀ p ∈ ps, OkP 3 p.2) (at_ : Nat) : lnames (leavesA u ps at_) at_ = exA u ps at_ := by
  induction ps generalizing at_ with
  | nil => rfl
  | cons p r ih =>
    have hp := h p (.head _)
    simp only [leavesA, exA, lnames_app, List.length_map]
    rw [lv_len u 3 _ _ _ hp, ih (fun q hq => h q (.tail _ hq))]
    congr 1
    rw [ex_tag]
    unfold tgL
    by_cases q : tg p = S0
    · rw [if_pos q, if_pos q]
      rw [ex_eq u 3 p.2 [] at_ at_ (at_ + cnt u p.2) at_ 0 hp (fun _ h => nomatch h) (fun h => absurd rfl h), join_nilS]
    · rw [if_neg q, if_neg q]
      rw [ex_eq u 3 p.2 [tg p] at_ at_ (at_ + cnt u p.2) 0 (cnt u p.2) hp (fun t ht => by rw [List.mem_singleton] at ht; rw [ht]; exact q) (fun _ => ⟨rfl, rfl, by lia⟩)]
      have := join_snoc (xs := []) (n := tg p) (fun _ h => nomatch h) q
      rw [List.nil_append, join_nilS] at this
      rw [this]
theorem due_eq {ps : List Pr} (h : OkA ps) (u w : Bool) : dueV ps u w = resV ps u w := by
  unfold dueV resV
  rw [leavesA_items h.val, names_eq h.val]
end Mine
namespace Mine
example (P : Params) : hd.heap_39 P = hd.heap_39 P ∧ PySem.Challenge.rw_nz0506_01 = PySem.Challenge.rw_nz0506_01 := by k_fill; exact ⟨rfl, rfl⟩
set_option hygiene false
local macro_rules
  | `(tactic| tm_at $s:str) => do
    let tac (c : String) : Lean.MacroM (Lean.TSyntax `tactic) := match c with
      | "r" => `(tactic| rfl)
      | "k" => `(tactic| kernel_rfl)
      | "K" => `(tactic| kernel_rfl!)
      | "as" => `(tactic| assumption)
      | "A" => `(tactic| with_reducible assumption)
      | "D" => `(tactic| try dsimp only)
      | "dec" => `(tactic| decide)
      | "kis" => `(tactic| k_is)
      | c => if c.startsWith "R:" then `(tactic| repeat tm_at $(Lean.quote (c.drop 2).toString)) else `(tactic| tm_at $(Lean.quote c))
    let alt (w : String) : Lean.MacroM (Lean.TSyntax ``Lean.Parser.Tactic.tacticSeq) := do
      let ws := w.splitOn " "
      let mut cs := #[]
      if w.startsWith "&" then
        for x in (w.drop 1).toString.splitOn " " do cs := cs.push (← tac x)
      else if w.startsWith ">" then cs := cs.push (← tac (w.drop 1).toString)
      else if w.startsWith "!" then
        let hs ← (List.replicate ws[1]!.toNat! ()).toArray.mapM fun _ => `(_)
        cs := #[← `(tactic| with_reducible show $(Lean.mkIdent (ws.head!.drop 1).toString.toName) $hs*), ← tac ws[2]!]
      else
        let mut as := #[]
        for x in ws.tail do
          match x with
          | "_" => as := as.push (← `(?_))
          | "a" => as := as.push (← `((by assumption)))
          | "h" => as := as.push (← `((Ar.hh (by assumption))))
          | "g" => as := as.push (← `((GO.gd (by assumption))))
          | "n" => as := as.push (← `((fun _ => rfl)))
          | x =>
            if x.startsWith "=" then as := as.push (Lean.mkIdent (x.drop 1).toString.toName)
            else if x.startsWith ";" then cs := cs.push (← tac (x.drop 1).toString)
            else
              let t ← tac x
              let id := Lean.mkIdent (← Lean.Macro.addMacroScope (Lean.Name.mkSimple s!"t{as.size}"))
              as := as.push (← `(?$id))
              cs := cs.push (← `(tactic| case $id:ident => $t:tactic))
        let f := Lean.mkIdent ws.head!.toName
        cs := #[← if as.isEmpty then `(tactic| with_reducible refine' $f) else `(tactic| with_reducible refine' $f $as*)] ++ cs
      `(Lean.Parser.Tactic.tacticSeq| ($[$cs:tactic];*))
    match s.getString with
    | "in" => `(tactic| intro _ _)
    | "oth" => `(tactic| (intro q; cases q))
    | "ns" => `(tactic| exact fun _ _ => rfl)
    | "isN" => `(tactic| with_reducible show WE _ _ _ (Expr.Name _ _) _ _)
    | "isC" => `(tactic| with_reducible show WE _ _ _ (Expr.Call _ _ _ _) _ _)
    | "sb" => `(tactic| ((fail_if_success (with_reducible show WE _ _ _ (Expr.Subscript _ (Expr.Slice _ _ _ _) _) _ _)); (fail_if_success (with_reducible show WE _ _ _ (Expr.Subscript (Expr.Dict _ _ _) _ _) _ _)); with_reducible refine we_Sub ?_))
    | "ite2" => `(tactic| ((fail_if_success (with_reducible show @ite _ (@decide (@Eq Str _ _) _ = true) _ _ _)); (fail_if_success (with_reducible show @ite _ (@decide (@Ne Str _ _) _ = true) _ _ _)); (first | refine ite_tt ?_ | refine ite_ff ?_ | refine ite_T ?_ | refine ite_F ?_)))
    | "ext" => `(tactic| with_reducible refine ⟨_, rfl, ?_⟩)
    | "w1" => `(tactic| first | dsimp only [isN, retV_ret, retV_next, Bool.not_true, Bool.not_false] | simp only [ofS_eq, ofS_ne, String.reduceEq, String.reduceNe, decide_true, decide_false, Bool.not_true, Bool.not_false])
    | "z" => `(tactic| ((simp only [List.length_cons, List.length_nil]); decide))
    | "sd" => `(tactic| simp only [dput, ofS_eq, String.reduceEq, if_false, if_true])
    | "yes" => `(tactic| (refine ite_dec (fun _ => ?_) (fun q => absurd (by decide) q)))
    | "no" => `(tactic| (refine ite_dec (fun q => absurd q (by decide)) (fun _ => ?_)))
    | n =>
      match ("sto^sto_sc a k~sw^swaps_sc a a K~rs^>r|>sw~o^Mth.mk r r r~look^&D R:l1~l1^>A|look_same|look_ne _ K~lv^&D R:lo lq~lo^look_ne _ K~lq^look_eq _~lk^&D lq~glob^mg_get_attr a|mg_names_of a|mg_dim_of a|mg_gcd a|mg_nearest_whole a|mg_exponent a|mg_whole_text a|mg_special_text a|mg_scaled a|mg_significant a|mg_without_tail a|mg_fixed_text a|mg_measures a|mg_chosen_form a|mg_formed a|mg_common_texts a|mg_number_text a|mg_from_int a|mg_null a|mg_character a|mg_named a|mg_is_vector a|mg_share a|mg_kind_order a|mg_common_kind a|mg_to_integer a|mg_to_double a|mg_to_text a|mg_item_as a|mg_is_atomic_kind a|mg_with_names a|mg_as_kind a|mg_opens a|mg_count_leaves a|mg_joined_base a|mg_leaf_name a|mg_plain_names a|mg_extract_names a|mg_has_names a|mg_joined_names a|mg_gather a|mg_part_items a|mg_combine a|mg_unlisted a|mg_law_digits a|mg_law_draw a|mg_law_names a|mg_law_value a|mg_law_built a|mg_law_leaves a|mg_law_text a|mg_law_as a|mg_law_kinds a|mg_law_has a|mg_law_name a|mg_law_same a|mg_law_due a|mg_law_alike a|mg_Vector a|mg_Null a|mg_NameRow a|mb_len a|mb_range a|mb_list a|mb_str a|mb_abs a|mb_max a|mb_isinstance a|mb_int a|mb_tuple a~wx^wx_Return _|wx_If _|wx_AC a k h a sto n sw _|wx_AC2 a k h a sto n sw _|wx_ACif a k h a sto n sw _|wx_For h _ n =PassesOwn.never|wx_Assign a sto _ rs|wx_AssignA a g _ r|wx_AssignT _ r r|wx_Aug a sto look _|wx_AugA a g _|wx_Return0 _|wx_AssignI _ r|wx_ExprA a _ r|wx_Pass _|wx_Continue _~for^wx_For h _ n =PassesOwn.never~nm^we_name a look _|we_gref a a a glob k _|we_bi a a a glob k _|we_ty a a a glob k _~cm^we_Call _|we_append o r _|we_pop o _|we_reverse o _|we_extend o r _|we_meth =PySem.F.plainAttrs_dict =PySem.F.slot_dict_get =PySem.F.type_dict_get o r _|we_meth =PySem.F.plainAttrs_str =PySem.F.slot_str_rjust =PySem.F.type_str_rjust o r _|we_meth =PySem.F.plainAttrs_str =PySem.F.slot_str_join =PySem.F.type_str_join o r _~idxL^we_meth =PySem.F.plainAttrs_list =PySem.F.slot_list_index =PySem.F.type_list_index o r _~idxT^we_meth =PySem.F.plainAttrs_tuple =PySem.F.slot_tuple_index =PySem.F.type_tuple_index o r _~weN^&isN nm~weC^&isC cm~we^>weN|>weC|>we1~we1^we_Attr _ r|we_none _|we_int _|we_str _|we_bool _|>sb|we_BinOp _|we_Compare _ r|we_IfExp _|we_bool1 _|we_and _|we_or _|we_Not _|we_Unary _|we_List _|we_LC a k h a n _|we_LC2 a k h a n _|we_Tuple _~wb^wb_Compare _ r|wb_not _|wb_and _|wb_and_nil _|wb_or _|wb_or_nil _|wb_IfExp _|wb_Name _|wb_Call _~kk^kb_i _|kas_i _|kcv_i _|kfin_r _|kfin_n _|knl_i k _ ;in|knt_i k _ ;in~st^>kk|!WE 6 we|!WX 6 wx|!WS 6 ws|!WB 6 wb|!WL 7 wl|!turnQ 4 tq|!WA 7 wa|was_cons _|was_nil _|!nx 7 nx|!CF 8 cf~ws^ws_cons _|ws_nil _~wl^wl_nil _|wl_cons _ r~tq^turnQ_nextP a _|turnQ_ret _|turnQ_contP a _~nx^nx_next _|nx_ret _|nx_cont _~cf^cf_refG a kis r _|cf_bi r _|cf_ty r _~wa^wa_Name a sto _|wa_tup h r get r _|wa_list h r get r _~le^&D R:le1~le1^>A|Le.refl _|cut_le _ _|le_new _ as|le_pure _ as|le_cutS _~get^&D R:gt~gt^>A|upd_same _ _ _|new_get _ as|get_ne _ as|get_keep as _~flat^&R:fl~fl^flat_nil|flat_cons r _~attr^vec_kind a as le _|vec_items a as le _|vec_attrs a as le as _|null_kind a as le _~sub^sub_tup ns get dec dec r _|sub_list ns get dec dec r _~at2^c_eqs _|c_nes _|c_eqi _|c_nei _|c_lt _|c_gt _|c_le _|c_ge _|c_is oth _|c_isnot oth _|b_add _|b_sub _|i_add _|i_sub _|c_inT get r flat _~at1^u_neg _~ite^ite_tt _|ite_ff _|ite_T _|ite_F _|>ite2~op^!SUB 9 sub|!AT2S 7 at2|!AT1S 6 at1|!ite 3 ite|!ATTR 7 attr|sml_i k _ ;D ;in|ex_none _|>ext~w^&R:w0~w0^>st|>op|hPo _ _ _|>w1~cv^cV_kind a|cV_items a|cV_attrs a|cV_shared a|cV_loose a~seta^&seta1 sd~seta1^seta_mk get get cv z _~slTo^we_SliceTo ns _~slFr^we_SliceFr ns _~slUp^we_SliceUp ns _~slTup^we_SliceTup ns _".splitOn "~").find? (fun r => r.startsWith (n ++ "^")) with
      | some r => do
        let ts ← ((r.splitOn "^")[1]!.splitOn "|").toArray.mapM alt
        `(tactic| first $[| $ts]*)
      | none => Lean.Macro.throwUnsupported
set_option hygiene true
section
variable {G : Md} {A : Around} {H F : AH} {Q : AV → AH → Prop}
/-- the kinds -/
noncomputable def KOK (k : Str) : Prop := k = Str.ofString "NULL" ∨ k = Str.ofString "logical" ∨ k = Str.ofString "integer" ∨ k = Str.ofString "double" ∨ k = Str.ofString "character" ∨ k = Str.ofString "list"
inductive VK (F : AH) (x : Addr) : Str → Prop
  | vec {k : Str} {i : Addr} {av : AV} (v : IsVec F x k i av) : VK F x k
  | null (v : IsNull F x) : VK F x (Str.ofString "NULL")
theorem vk_kind {env : Env} {σ : St} (g : GO G) {F : AH} {x : Addr} {k : Str} {Q : AV → St → Prop} (v : VK F x k) (l : Le F σ.H) (h : Q (.str k) σ) : ATTR G A env (Str.ofString "kind") (.ref x) Q σ := by
  cases v with
  | vec v => exact vec_kind g v l h
  | null v => exact null_kind g v l h
theorem open_eq {k : Str} (hk : KOK k) : ([AV.str (Str.ofString "list"), .str (Str.ofString "expression"), .str (Str.ofString "pairlist")].any fun y => feq y (.str k)) = decide (k = Str.ofString "list") := by
  rcases hk with rfl | rfl | rfl | rfl | rfl | rfl <;> simp [feq, ofS_beq, ofS_eq]
theorem sp_opens (g : GO G) (ar : Ar 1 A) {x : Addr} {b : Bool} {k : Str} (v : VK F x k) (l : Le F H) (hk : KOK k) (h : ∀ H', Keep [] H H' → Q (.bool (b && decide (k = Str.ofString "list"))) H') : CC G A 510 [.ref x, .bool b] Q H := by
  refine go2 g ar (fx510 g) rfl ?_
  intro A env ar eo hsc
  tm_at "w"
  cases b with
  | false =>
    tm_at "w"
    exact h _ .refl
  | true =>
  tm_at "w"
  refine vk_kind g v (by tm_at "le") ?_
  tm_at "w"
  rw [open_eq hk]
  exact h _ (Keep.refl.new (by assumption))
end
section
variable {G : Md} {A : Around} {H F : AH} {Q : AV → AH → Prop}
theorem sp_VInit (g : GO G) (ar : Ar 1 A) {x d i : Addr} {k : Str} (hx : H x = some (.inst 314 d)) (hdd : H d = some (.dict [])) (hne : x ≠ d)
    (h : Q .none (upd (upd (upd (upd (upd H d (.dict [(Str.ofString "kind", .str k)])) d (.dict [(Str.ofString "kind", .str k), (Str.ofString "items", .ref i)])) d (.dict [(Str.ofString "kind", .str k), (Str.ofString "items", .ref i), (Str.ofString "attrs", .none)])) d (.dict [(Str.ofString "kind", .str k), (Str.ofString "items", .ref i), (Str.ofString "attrs", .none), (Str.ofString "shared", .bool false)])) d (.dict [(Str.ofString "kind", .str k), (Str.ofString "items", .ref i), (Str.ofString "attrs", .none), (Str.ofString "shared", .bool false), (Str.ofString "loose", .bool false)]))) :
    CC G A 304 [.ref x, .str k, .ref i] Q H := by
  refine' g.enterD [("self", .ref x), ("kind", .str k), ("items", .ref i), ("attrs", .none)] ar _ _ _ _ _ _ _ _
  rotate_left 5
  · k_is
  · k_is
  · rfl
  · exact ⟨rfl, rfl, rfl, rfl, rfl, rfl, rfl⟩
  · rfl
  · intro us eu s X
    obtain ⟨u1, u2, u3, rfl⟩ := us3 eu
    simp only [List.map_cons, List.map_nil, List.cons.injEq, and_true] at eu
    have hD : s.heap.get? 297 = _ := X _ _ (by k_is)
    refine ⟨[("self", u1), ("kind", u2), ("items", u3), ("attrs", .none)], BindsTo.of_defaults rfl hD rfl rfl ?_, ?_⟩
    · kernel_rfl
    · simp only [List.map_cons, List.map_nil, eu]; rfl
  · kernel_rfl
  intro A env ar eo hsc
  dsimp only [bindM, List.foldl_cons, List.foldl_nil]
  tm_at "w"
  tm_at "seta"
  tm_at "w"
  tm_at "seta"
  tm_at "w"
  tm_at "seta"
  tm_at "w"
  tm_at "seta"
  tm_at "w"
  tm_at "seta"
  tm_at "w"
  exact h
/-- a new vector -/
structure NVec (H : AH) (x d : Addr) (k : Str) (i : Addr) : Prop where
  x : H x = some (.inst 314 d)
  d : H d = some (.dict [(Str.ofString "kind", .str k), (Str.ofString "items", .ref i), (Str.ofString "attrs", .none), (Str.ofString "shared", .bool false), (Str.ofString "loose", .bool false)])
theorem NVec.vec {H : AH} {x d : Addr} {k : Str} {i : Addr} (h : NVec H x d k i) : IsVec H x k i .none := ⟨d, false, false, h.x, h.d⟩
theorem upd_upd (H : AH) (a : Addr) (o o' : AObj) : upd (upd H a o) a o' = upd H a o' := by
  funext b; unfold upd; split <;> rfl
theorem upd_comm (H : AH) {a b : Addr} (o o' : AObj) (h : a ≠ b) : upd (upd H a o) b o' = upd (upd H b o') a o := by
  funext c; unfold upd
  by_cases e1 : c = a <;> by_cases e2 : c = b <;> simp [e1, e2]
  · exact absurd (e1.symm.trans e2) h
  all_goals (first | (intro z; exact absurd z h) | (intro z; exact absurd z.symm h))
theorem sp_Vector (g : GO G) (ar : Ar 2 A) {i : Addr} {k : Str} (h : ∀ H' x d, Keep [] H H' → H x = none → H d = none → NVec H' x d k i → Q (.ref x) H') : CC G A 314 [.str k, .ref i] Q H := by
  refine cmake (fI := 304) g.gd (by rw [g.K]; k_is) (by rw [g.K]; k_is) (by rw [g.K]; k_is) ?_
  intro A' hA d x nd nx ne
  have ar' : Ar 1 A' := by
    rcases hA with rfl | ⟨vals, rfl⟩
    · exact ar.le (by decide)
    · exact ar.make
  have nx' : upd H d (.dict []) x = none := by rw [upd_ne _ _ ne]; exact nx
  refine sp_VInit g ar' (d := d) (upd_same _ _ _) ?_ ne ?_
  · rw [upd_ne _ _ (Ne.symm ne), upd_same]
  · refine ⟨rfl, h _ x d ?_ nx nd ⟨?_, ?_⟩⟩
    · exact ((((((Keep.refl.new nd).new nx').own nd).own nd).own nd).own nd).own nd
    · simp only [upd_upd]
      rw [upd_ne _ _ ne, upd_same]
    · rw [upd_same]
end
section
variable {G : Md} {A : Around} {H F : AH} {Q : AV → AH → Prop}
theorem sp_NInit (g : GO G) (ar : Ar 1 A) {x d : Addr} (hx : H x = some (.inst 285 d)) (hdd : H d = some (.dict [])) (hne : x ≠ d)
    (h : Q .none (upd (upd H d (.dict [(Str.ofString "kind", .str (Str.ofString "NULL"))])) d (.dict [(Str.ofString "kind", .str (Str.ofString "NULL")), (Str.ofString "attrs", .none)]))) : CC G A 282 [.ref x] Q H := by
  refine go1 g ar (fx282 g) rfl ?_
  intro A env ar eo hsc
  tm_at "w"
  refine seta_mk (by tm_at "get") (by tm_at "get") (cN_kind g) (by decide) ?_
  tm_at "w"
  refine seta_mk (by tm_at "get") (by tm_at "get") (cN_attrs g) (by decide) ?_
  tm_at "w"
  simp only [dput, ofS_eq, String.reduceEq, if_false, if_true] at h ⊢
  exact h
theorem sp_Null (g : GO G) (ar : Ar 2 A) (h : ∀ H' x d, Keep [] H H' → H x = none → H d = none → H' x = some (.inst 285 d) → H' d = some (.dict [(Str.ofString "kind", .str (Str.ofString "NULL")), (Str.ofString "attrs", .none)]) → Q (.ref x) H') : CC G A 285 [] Q H := by
  refine cmake (fI := 282) g.gd (by rw [g.K]; k_is) (by rw [g.K]; k_is) (by rw [g.K]; k_is) ?_
  intro A' hA d x nd nx ne
  have ar' : Ar 1 A' := by
    rcases hA with rfl | ⟨vals, rfl⟩
    · exact ar.le (by decide)
    · exact ar.make
  have nx' : upd H d (.dict []) x = none := by rw [upd_ne _ _ ne]; exact nx
  refine sp_NInit g ar' (d := d) (upd_same _ _ _) ?_ ne ?_
  · rw [upd_ne _ _ (Ne.symm ne), upd_same]
  · refine ⟨rfl, h _ x d ?_ nx nd ?_ ?_⟩
    · exact (((Keep.refl.new nd).new nx').own nd).own nd
    · simp only [upd_upd]
      rw [upd_ne _ _ ne, upd_same]
    · rw [upd_same]
theorem sp_null (g : GO G) (ar : Ar 3 A) (h : ∀ H' x d, Keep [] H H' → H x = none → H d = none → H' x = some (.inst 285 d) → H' d = some (.dict [(Str.ofString "kind", .str (Str.ofString "NULL")), (Str.ofString "attrs", .none)]) → Q (.ref x) H') : CC G A 325 [] Q H := by
  refine go0 g ar (fx325 g) rfl ?_
  intro A env ar eo hsc
  tm_at "w"
  refine (sp_Null g (ar.le (by decide)) fun H' x d k nx nd e1 e2 => ?_).cv
  tm_at "w"
  exact h _ _ _ k nx nd e1 e2
theorem sp_character (g : GO G) (ar : Ar 3 A) {l : Addr} {xs : List AV} (e : H l = some (.list xs)) (hz : xs.length ≤ sizeLine) (h : ∀ H' y d l', Keep [] H H' → H y = none → H d = none → H l' = none → NVec H' y d (Str.ofString "character") l' → H' l' = some (.list xs) → Q (.ref y) H') : CC G A 332 [.ref l] Q H := by
  refine go1 g ar (fx332 g) rfl ?_
  intro A env ar eo hsc
  tm_at "w"
  refine cv_list (by tm_at "get") hz fun l' nl => ?_
  tm_at "w"
  refine (sp_Vector g (ar.le (by decide)) fun H' x d k nx nd nv => ?_).cv
  tm_at "w"
  have hx : H x = none := by
    cases q : H x with
    | none => rfl
    | some o => rw [new_get q nl] at nx; cases nx
  have hdd : H d = none := by
    cases q : H d with
    | none => rfl
    | some o => rw [new_get q nl] at nd; cases nd
  exact h _ _ _ _ ((Keep.refl.new nl).trans k) hx hdd nl nv (k.get (upd_same _ _ _) (by simp))
theorem sp_isvec (g : GO G) (ar : Ar 1 A) {x i : Addr} {k : Str} {av : AV} (v : IsVec F x k i av) (l : Le F H) (h : Q (.bool true) H) : CC G A 353 [.ref x] Q H := by
  refine go1 g ar (fx353 g) rfl ?_
  intro A env ar eo hsc
  tm_at "w"
  refine isi_vec g v (by tm_at "le") ?_
  tm_at "w"
  exact h
theorem sp_isvec0 (g : GO G) (ar : Ar 1 A) {x : Addr} (v : IsNull F x) (l : Le F H) (h : Q (.bool false) H) : CC G A 353 [.ref x] Q H := by
  refine go1 g ar (fx353 g) rfl ?_
  intro A env ar eo hsc
  tm_at "w"
  refine isi_null g v (by tm_at "le") ?_
  tm_at "w"
  exact h
theorem sp_attr0 (g : GO G) (ar : Ar 1 A) {x i : Addr} {k n : Str} (v : IsVec F x k i .none) (l : Le F H) (h : Q .none H) : CC G A 28 [.ref x, .str n] Q H := by
  refine go2 g ar (fx28 g) rfl ?_
  intro A env ar eo hsc
  tm_at "w"
  refine vec_attrs g v (by tm_at "le") (fun i e => by cases e) ?_
  tm_at "w"
  exact h
theorem sp_attr1 (g : GO G) (ar : Ar 1 A) {x i a : Addr} {k n : Str} {es : List (Str × AV)} (v : IsVec F x k i (.ref a)) (e : F a = some (.dict es)) (l : Le F H) (h : Q ((es.lookup n).getD .none) H) : CC G A 28 [.ref x, .str n] Q H := by
  refine go2 g ar (fx28 g) rfl ?_
  intro A env ar eo hsc
  tm_at "w"
  refine vec_attrs g v (by tm_at "le") (fun i e => by cases e) ?_
  tm_at "w"
  refine vec_attrs g v (by tm_at "le") (fun i e => by cases e) ?_
  dsimp only
  refine ⟨.dict (l.get e), ?_⟩
  tm_at "w"
  refine cv_get (l.get e) ?_
  tm_at "w"
  exact h
theorem sp_dim (g : GO G) (ar : Ar 2 A) {x i : Addr} {k : Str} {av : AV} {nm : Option (List (Option Str))} (v : IsVec F x k i av) (r : RN F nm av) (l : Le F H) (h : Q .none H) : CC G A 40 [.ref x] Q H := by
  refine go1 g ar (fx40 g) rfl ?_
  intro A env ar eo hsc
  tm_at "w"
  cases r with
  | none =>
    refine (sp_attr0 g (ar.le (by decide)) v (by tm_at "le") ?_).cv
    tm_at "w"
    exact h
  | some e v' e' =>
    refine (sp_attr1 g (ar.le (by decide)) v e (by tm_at "le") ?_).cv
    simp only [List.lookup_cons, List.lookup_nil, ofS_beq, String.reduceEq, decide_false, Option.getD_none]
    tm_at "w"
    exact h
theorem sp_names0 (g : GO G) (ar : Ar 3 A) {x i : Addr} {k : Str} (hk : KOK k) (v : IsVec F x k i .none) (l : Le F H) (h : Q .none H) : CC G A 33 [.ref x] Q H := by
  refine go1 g ar (fx33 g) rfl ?_
  intro A env ar eo hsc
  have k1 : decide (k = Str.ofString "language") = false := by rcases hk with rfl | rfl | rfl | rfl | rfl | rfl <;> simp [ofS_eq]
  have k2 : decide (k = Str.ofString "environment") = false := by rcases hk with rfl | rfl | rfl | rfl | rfl | rfl <;> simp [ofS_eq]
  tm_at "w"
  rw [k1]
  tm_at "w"
  rw [k2]
  tm_at "w"
  refine (sp_dim g (ar.le (by decide)) v .none (by tm_at "le") ?_).cv
  tm_at "w"
  refine (sp_attr0 g (ar.le (by decide)) v (by tm_at "le") ?_).cv
  tm_at "w"
  exact h
theorem sp_names1 (g : GO G) (ar : Ar 3 A) {x i a : Addr} {k : Str} {nm : List (Option Str)} (hk : KOK k) (v : IsVec F x k i (.ref a)) (r : RN F (some nm) (.ref a)) (l : Le F H) (hz : nm.length ≤ sizeLine) (h : ∀ H' l', Keep [] H H' → H l' = none → H' l' = some (.list (nm.map ostr)) → Q (.ref l') H') : CC G A 33 [.ref x] Q H := by
  refine go1 g ar (fx33 g) rfl ?_
  intro A env ar eo hsc
  have k1 : decide (k = Str.ofString "language") = false := by rcases hk with rfl | rfl | rfl | rfl | rfl | rfl <;> simp [ofS_eq]
  have k2 : decide (k = Str.ofString "environment") = false := by rcases hk with rfl | rfl | rfl | rfl | rfl | rfl <;> simp [ofS_eq]
  tm_at "w"
  rw [k1]
  tm_at "w"
  rw [k2]
  tm_at "w"
  refine (sp_dim g (ar.le (by decide)) v r (by tm_at "le") ?_).cv
  tm_at "w"
  cases r with
  | some e v' e' =>
  refine (sp_attr1 g (ar.le (by decide)) v e (by tm_at "le") ?_).cv
  simp only [List.lookup_cons, List.lookup_nil, ofS_beq, String.reduceEq, decide_true, Option.getD_some]
  tm_at "w"
  refine cv_list (l.get e') (by rw [List.length_map]; exact hz) fun l' nl => ?_
  tm_at "w"
  exact h _ _ (Keep.refl.new nl) nl (upd_same _ _ _)
end
set_option pp.maxSteps 1500
section
variable {G : Md} {A : Around} {H F : AH} {Q : AV → AH → Prop}
theorem kok (k : Kd) : KOK k.s := by cases k <;> simp [KOK, Kd.s]
theorem NVec.obj {H : AH} {x d i : Addr} {k : Str} (v : NVec H x d k i) : VObj H x d k i .none false false := ⟨v.x, v.d⟩
/-- the row of names -/
structure NRow (H : AH) (r d l : Addr) (n c : Int) : Prop where
  x : H r = some (.inst 499 d)
  d : H d = some (.dict [(Str.ofString "names", .ref l), (Str.ofString "number", .int n), (Str.ofString "count", .int c)])
theorem row_names {env : Env} {σ : St} (g : GO G) {r d l : Addr} {n c : Int} {Q : AV → St → Prop} (v : NRow σ.H r d l n c) (h : Q (.ref l) σ) : ATTR G A env (Str.ofString "names") (.ref r) Q σ :=
  attr_get g.gd v.x v.d (cR_names g) (by simp [List.lookup, ofS_beq]) (fun i e => by cases e) h
theorem row_number {env : Env} {σ : St} (g : GO G) {r d l : Addr} {n c : Int} {Q : AV → St → Prop} (v : NRow σ.H r d l n c) (h : Q (.int n) σ) : ATTR G A env (Str.ofString "number") (.ref r) Q σ :=
  attr_get g.gd v.x v.d (cR_number g) (by simp [List.lookup, ofS_beq]) (fun i e => by cases e) h
theorem row_count {env : Env} {σ : St} (g : GO G) {r d l : Addr} {n c : Int} {Q : AV → St → Prop} (v : NRow σ.H r d l n c) (h : Q (.int c) σ) : ATTR G A env (Str.ofString "count") (.ref r) Q σ :=
  attr_get g.gd v.x v.d (cR_count g) (by simp [List.lookup, ofS_beq]) (fun i e => by cases e) h
theorem sp_jbase (g : GO G) (ar : Ar 1 A) {b t : Str} (hz : b.length + t.length ≤ 1000) (h : Q (.str (jb b t)) H) : CC G A 524 [.str b, .str t] Q H := by
  refine go2 g ar (fx524 g) rfl ?_
  intro A env ar eo hsc
  have l1 : (Str.ofString ".").length = 1 := by decide +kernel
  tm_at "w"
  refine ite_dec (fun q1 => ?_) (fun q1 => ?_)
  · tm_at "w"
    refine ite_dec (fun q2 => ?_) (fun q2 => ?_)
    · tm_at "w"
      refine b_adds (by rw [l1, sizeLine_eq]; lia) ?_
      tm_at "w"
      refine b_adds (by rw [Str.length_append, l1, sizeLine_eq]; lia) ?_
      tm_at "w"
      simpa [jb, q1, q2] using h
    · tm_at "w"
      refine ite_dec (fun q => absurd q q2) fun _ => ?_
      tm_at "w"
      simpa [jb, q1, q2] using h
  · tm_at "w"
    refine ite_dec (fun q2 => ?_) (fun q2 => ?_)
    · tm_at "w"
      simpa [jb, q1, q2] using h
    · tm_at "w"
      simpa [jb, q1, q2] using h
theorem sp_leafname (g : GO G) (ar : Ar 2 A) {b t : Str} {r d l : Addr} {n c : Nat} (hr : NRow H r d l n c) (hz : b.length + t.length ≤ 900) (hn : n ≤ 1000) (h : Q (.str (leafN b t n c)) H) : CC G A 531 [.str b, .str t, .ref r] Q H := by
  refine go3 g ar (fx531 g) rfl ?_
  intro A env ar eo hsc
  tm_at "w"
  refine ite_dec (fun q1 => ?_) (fun q1 => ?_)
  · tm_at "w"
    refine (sp_jbase g (ar.le (by decide)) (by lia) ?_).cv
    tm_at "w"
    simpa [leafN, q1] using h
  · tm_at "w"
    refine ite_dec (fun q2 => ?_) (fun q2 => ?_)
    · tm_at "w"
      simpa [leafN, q1, q2] using h
    · tm_at "w"
      refine row_count g hr ?_
      tm_at "w"
      refine ite_dec (fun q3 => ?_) (fun q3 => ?_)
      · tm_at "w"
        have : c = 1 := by lia
        simpa [leafN, q1, q2, this] using h
      · tm_at "w"
        refine row_number g hr ?_
        tm_at "w"
        have ln := natS_len (n := n) (by lia)
        refine cv_str (nat_small (by lia)) ?_
        tm_at "w"
        refine b_adds (by rw [sizeLine_eq]; show _ + (natS n).length ≤ _; lia) ?_
        tm_at "w"
        have : ¬ c = 1 := by lia
        simpa [leafN, q1, q2, this, natS] using h
theorem sp_share (g : GO G) (ar : Ar 1 A) {x d i : Addr} {k : Str} {av : AV} {b c : Bool} (v : VObj H x d k i av b c) (h : ∀ H', Keep [d] H H' → VObj H' x d k i av true c → Q (.ref x) H') : CC G A 367 [.ref x] Q H := by
  refine go1 g ar (fx367 g) rfl ?_
  intro A env ar eo hsc
  tm_at "w"
  refine isi_vec g v.vec (Le.refl _) ?_
  tm_at "w"
  refine seta_mk v.x v.d (cV_shared g) (by simp only [List.length_cons, List.length_nil]; decide) ?_
  simp only [dput, ofS_eq, String.reduceEq, if_false, if_true]
  tm_at "w"
  exact h _ (Keep.refl.at (by simp)) ⟨(upd_ne _ _ v.ne).trans v.x, upd_same _ _ _⟩
theorem kd_flat (xs : List Str) : ∀ x ∈ xs.map AV.str, flat x = true := fun x hx => by obtain ⟨s, _, rfl⟩ := List.mem_map.mp hx; rfl
theorem sp_kindorder (g : GO G) (ar : Ar 1 A) (k : Kd) (h : ∀ H', Keep [] H H' → Q (.int (k.o + 1 : Nat)) H') : CC G A 374 [.str k.s] Q H := by
  refine go1 g ar (fx374 g) rfl ?_
  intro A env ar eo hsc
  tm_at "w"
  change @ite Prop ((top7.any fun y => feq y (AV.str k.s)) = true) _ _ _
  rw [top7_in]
  tm_at "w"
  tm_at "idxT"
  tm_at "w"
  refine ⟨.tup (xs := top7) (upd_same _ _ _), ?_⟩
  tm_at "w"
  refine cv_indexT' (xs := top7) (upd_same _ _ _) rfl top7_flat (by decide) (top7_hit k) (top7_no k) ?_
  tm_at "w"
  exact h _ (Keep.refl.new (by assumption))
theorem sp_commonkind (g : GO G) (ar : Ar 2 A) {l : Addr} {ks : List Kd} (hl : H l = some (.list (ks.map fun k => .str k.s))) (hne : ks ≠ []) (h : ∀ H', Keep [] H H' → Q (.str (hi ks).s) H') : CC G A 381 [.ref l] Q H := by
  refine go1 g ar (fx381 g) rfl ?_
  intro A env ar eo hsc
  tm_at "w"
  rename_i aN fN
  refine for_list (xs := ks.map fun k => .str k.s) (fun i σ' => σ'.m "names" = some (.ref aN) ∧ σ'.m "most" = some (.int (((ks.take i).foldl (fun (m : Nat) k => max m (k.o + 1)) 0 : Nat) : Int)) ∧ Keep [] H σ'.H ∧ σ'.H aN = some (.tup top7)) (by tm_at "get") ⟨by tm_at "look", by dsimp only; exact look_same.trans (by simp), Keep.refl.new (by assumption), upd_same _ _ _⟩ (fun i σ' h => h.2.2.1.le _ _ hl) ?_ ?_
  · rintro i Po hPo v σ' hi hv ⟨n1, n2, k1, t1⟩
    rw [List.length_map] at hi
    have hk : ks[i]? = some ks[i] := List.getElem?_eq_getElem hi
    rw [List.getElem?_map, hk] at hv
    cases hv
    tm_at "w"
    refine (sp_kindorder g (ar.le (by decide)) _ fun H' k2 => ?_).cv
    tm_at "w"
    refine cv_max2 ar.hh ?_
    tm_at "w"
    refine ⟨by tm_at "look", ?_, k1.trans k2, k2.le _ _ t1⟩
    rw [List.take_add_one, hk, List.foldl_append]
    refine look_same.trans ?_
    congr 2
    simp only [Option.toList_some, List.foldl_cons, List.foldl_nil]
    lia
  · rintro σ' ⟨n1, n2, k1, t1⟩
    rw [List.length_map, List.take_of_length_le (Nat.le_refl _), mx_hi hne] at n2
    tm_at "w"
    refine sub_tup (xs := top7) (fun _ _ => rfl) t1 (by lia) ?_ (by simpa using top7_at _) ?_
    · have : (hi ks).o ≤ 4 := by cases hi ks <;> decide
      lia
    tm_at "w"
    exact h _ k1
end
section
variable {G : Md} {A : Around} {H F : AH} {Q : AV → AH → Prop}
theorem sp_atomk (g : GO G) (ar : Ar 1 A) {k : Kd} (hk : k ≠ .ls) (h : ∀ H', Keep [] H H' → Q (.bool true) H') : CC G A 451 [.str k.s] Q H := by
  refine go1 g ar (fx451 g) rfl ?_
  intro A env ar eo hsc
  tm_at "w"
  have : ([AV.str (Str.ofString "logical"), .str (Str.ofString "integer"), .str (Str.ofString "double"), .str (Str.ofString "character")].any fun y => feq y (.str k.s)) = true := by
    cases k <;> first | exact absurd rfl hk | simp [Kd.s, feq_s]
  rw [this]
  exact h _ (Keep.refl.new (by assumption))
theorem sp_fromint (g : GO G) (ar : Ar 1 A) {i : Int} (h : ∀ H' a, Keep [] H H' → H a = none → H' a = some (.tup [.int i, .int 1]) → Q (.ref a) H') : CC G A 101 [.int i] Q H := by
  refine go1 g ar (fx101 g) rfl ?_
  intro A env ar eo hsc
  tm_at "w"
  exact h _ _ (Keep.refl.new (by assumption)) (by assumption) (upd_same _ _ _)
theorem sp_special (g : GO G) (ar : Ar 1 A) {x : Addr} {n d : Int} (hx : H x = some (.tup [.int n, .int d])) (hd : 0 < d) (h : Q .none H) : CC G A 157 [.ref x] Q H := by
  refine go1 g ar (fx157 g) rfl ?_
  intro A env ar eo hsc
  tm_at "w"
  refine ite_dec (fun _ => ?_) (fun q => absurd hd q)
  tm_at "w"
  exact h
theorem sp_special0 (g : GO G) (ar : Ar 1 A) {x : Addr} (hx : H x = some (.tup [.int 0, .int 0])) (h : Q (.str (Str.ofString "NaN")) H) : CC G A 157 [.ref x] Q H := by
  refine go1 g ar (fx157 g) rfl ?_
  intro A env ar eo hsc
  tm_at "w"
  exact h
theorem sp_special1 (g : GO G) (ar : Ar 1 A) {x : Addr} (hx : H x = some (.tup [.int 1, .int 0])) (h : Q (.str (Str.ofString "Inf")) H) : CC G A 157 [.ref x] Q H := by
  refine go1 g ar (fx157 g) rfl ?_
  intro A env ar eo hsc
  tm_at "w"
  exact h
theorem mul_small {a b : Int} (h : Builtin.Int.intBits b ≤ 64) : IntMulOk a b := IntMulOk.of_right h
theorem sp_nearest (g : GO G) (ar : Ar 1 A) {n d q : Int} (e : n = q * d) (hd : 0 < d) (hb : Builtin.Int.intBits d ≤ 64) (h : Q (.int q) H) : CC G A 136 [.int n, .int d] Q H := by
  refine go2 g ar (fx136 g) rfl ?_
  intro A env ar eo hsc
  subst e
  have e1 : (q * d).fdiv d = q := Int.mul_fdiv_cancel _ (by lia)
  have e2 : Builtin.divisionGoesByPylong (q * d) d = false := by
    unfold Builtin.divisionGoesByPylong
    have : d.natAbs.log2 / 30 + 1 ≤ 300 := by
      unfold Builtin.Int.intBits at hb
      rw [if_neg (by simp; lia)] at hb
      lia
    simp only [Bool.and_eq_false_iff, decide_eq_false_iff_not]
    left
    rw [if_neg (by simp; lia)]
    lia
  tm_at "w"
  refine b_div (by lia) e2 ?_
  rw [e1]
  tm_at "w"
  refine b_mul (mul_small hb) ?_
  tm_at "w"
  rw [Int.sub_self]
  refine b_mul (mul_small (by decide)) ?_
  tm_at "w"
  refine ite_dec (fun q => absurd q (by lia)) (fun _ => ?_)
  tm_at "w"
  refine ite_dec (fun q => absurd q (by lia)) (fun _ => ?_)
  tm_at "w"
  exact h
theorem sp_exponent (g : GO G) (ar : Ar 1 A) {x : Addr} {n d : Int} (hx : H x = some (.tup [.int n, .int d])) (hb : Builtin.Int.intBits d ≤ 64) (h1 : ¬ (10 * d ≤ (if n < 0 then -n else n))) (h2 : ¬ ((if n < 0 then -n else n) < d)) (h : Q (.int 0) H) : CC G A 143 [.ref x] Q H := by
  refine go1 g ar (fx143 g) rfl ?_
  intro A env ar eo hsc
  tm_at "w"
  refine cv_abs ?_
  tm_at "w"
  refine wx_While (fun _ σ' => σ'.H = H ∧ σ'.m "n" = some (.int (if n < 0 then -n else n)) ∧ σ'.m "d" = some (.int d) ∧ σ'.m "e" = some (.int 0)) 0 ⟨rfl, by tm_at "look", by tm_at "look", by tm_at "look"⟩ ?_
  rintro _ ⟨H', m⟩ ⟨rfl, m1, m2, m3⟩
  tm_at "w"
  refine b_mul (mul_small hb) ?_
  tm_at "w"
  refine ite_dec (fun q => absurd q h1) (fun _ => ?_)
  tm_at "w"
  refine wx_While (fun _ σ' => σ'.H = H' ∧ σ'.m "n" = some (.int (if n < 0 then -n else n)) ∧ σ'.m "d" = some (.int d) ∧ σ'.m "e" = some (.int 0)) 0 ⟨rfl, by tm_at "look", by tm_at "look", by tm_at "look"⟩ ?_
  rintro _ ⟨H', m⟩ ⟨rfl, m1, m2, m3⟩
  tm_at "w"
  refine ite_dec (fun q => absurd q h2) (fun _ => ?_)
  tm_at "w"
  exact h
end
section
variable {G : Md} {A : Around} {H F : AH} {Q : AV → AH → Prop}
noncomputable def iabs (n : Int) : Int := if n < 0 then -n else n
theorem sp_scaled (g : GO G) (ar : Ar 2 A) {x : Addr} {n d q : Int} (hx : H x = some (.tup [.int n, .int d])) (e : iabs n * 100000000000000 = q * d) (hd : 0 < d) (hb : Builtin.Int.intBits d ≤ 64) (h : Q (.int q) H) : CC G A 164 [.ref x, .int 0, .int 15] Q H := by
  refine go3 g ar (fx164 g) rfl ?_
  intro A env ar eo hsc
  tm_at "w"
  refine cv_abs ?_
  tm_at "w"
  refine b_pow (by decide) (by decide) ?_
  tm_at "w"
  refine b_mul (mul_small (by decide)) ?_
  tm_at "w"
  refine (sp_nearest g (ar.le (by decide)) e hd hb ?_).cv
  tm_at "w"
  exact h
theorem sp_signif0 (g : GO G) (ar : Ar 3 A) {x : Addr} (hx : H x = some (.tup [.int 0, .int 1])) (h : ∀ H' a, Keep [] H H' → H' a = some (.tup [.int 0, .str "000000000000000", .int 0]) → Q (.ref a) H') : CC G A 171 [.ref x, .int 15] Q H := by
  refine go2 g ar (fx171 g) rfl ?_
  intro A env ar eo hsc
  tm_at "w"
  refine b_mulS (by refine ⟨by decide, ?_, ?_⟩ <;> decide +kernel) ?_
  tm_at "w"
  refine h _ _ (Keep.refl.new (by assumption)) ((upd_same _ _ _).trans ?_)
  have : Txt.mul "0" 15 = "000000000000000" := by decide +kernel
  rw [this]
theorem sp_signif (g : GO G) (ar : Ar 3 A) {x : Addr} {n d q : Int} (hx : H x = some (.tup [.int n, .int d])) (n0 : n ≠ 0) (h1 : ¬ (10 * d ≤ iabs n)) (h2 : ¬ (iabs n < d)) (e : iabs n * 100000000000000 = q * d) (hd : 0 < d) (hb : Builtin.Int.intBits d ≤ 64) (hq : ¬ (1000000000000000 ≤ q)) (hi : q.natAbs.log2 < 1920)
    (h : ∀ H' a s, Keep [] H H' → H' a = some (.tup [.int s, .str (Str.ofString (toString q)), .int 0]) → Q (.ref a) H') : CC G A 171 [.ref x, .int 15] Q H := by
  refine go2 g ar (fx171 g) rfl ?_
  intro A env ar eo hsc
  tm_at "w"
  refine ite_dec (fun q => absurd q n0) (fun _ => ?_)
  tm_at "w"
  refine (sp_exponent g (ar.le (by decide)) hx hb h1 h2 ?_).cv
  tm_at "w"
  refine (sp_scaled g (ar.le (by decide)) hx e hd hb ?_).cv
  tm_at "w"
  refine b_pow (by decide) (by decide) ?_
  tm_at "w"
  refine ite_dec (fun q => absurd q hq) (fun _ => ?_)
  tm_at "w"
  refine ite_dec (fun _ => ?_) (fun _ => ?_)
  · tm_at "w"
    refine cv_str hi ?_
    tm_at "w"
    exact h _ _ _ (Keep.refl.new (by assumption)) (upd_same _ _ _)
  · tm_at "w"
    refine cv_str hi ?_
    tm_at "w"
    exact h _ _ _ (Keep.refl.new (by assumption)) (upd_same _ _ _)
theorem sp_notail (g : GO G) (ar : Ar 1 A) {t : Str} {e : Nat} (ht : t.length ≤ 1000) (e1 : 1 ≤ e) (el : e ≤ t.length) (hz : ∀ j, e ≤ j → j < t.length → Txt.item t j = "0") (he : 1 < e → Txt.item t ((e : Int) - 1) ≠ "0") (h : Q (.str (Txt.slice t none (some (e : Int)))) H) : CC G A 178 [.str t] Q H := by
  refine go1 g ar (fx178 g) rfl ?_
  intro A env ar eo hsc
  tm_at "w"
  refine cv_len_str (by lia) ?_
  tm_at "w"
  refine wx_While (fun m σ' => σ'.H = H ∧ σ'.m "text" = some (.str t) ∧ σ'.m "end" = some (.int (e + m : Nat)) ∧ e + m ≤ t.length) (t.length - e) ⟨rfl, by tm_at "look", by tm_at "lk"; congr 1; lia, by lia⟩ ?_
  rintro m ⟨H', mm⟩ ⟨rfl, m1, m2, m3⟩
  tm_at "w"
  refine ite_dec (fun q1 => ?_) (fun q1 => ?_)
  · tm_at "w"
    refine sub_strA (by simp [fitsSsize]; lia) (by lia) (by lia) ?_
    tm_at "w"
    refine ite_dec (fun q2 => ?_) (fun q2 => ?_)
    · tm_at "w"
      have m0 : m ≠ 0 := fun z => by
        subst z
        refine he (by lia) ?_
        have : (((e + 0 : Nat) : Int) - 1) = (e : Int) - 1 := by lia
        rw [← this]; exact q2
      refine ⟨m - 1, by lia, rfl, by tm_at "look", by tm_at "lk"; congr 1; lia, by lia⟩
    · have m0 : m = 0 := by
        rcases Nat.eq_zero_or_pos m with z | z
        · exact z
        · refine absurd (hz (e + m - 1) (by lia) (by lia)) ?_
          have : (((e + m : Nat) : Int) - 1) = ((e + m - 1 : Nat) : Int) := by lia
          rw [← this]; exact q2
      subst m0
      tm_at "w"
      tm_at "slTo"
      tm_at "w"
      refine ⟨_, _, rfl, rfl, by rw [sizeLine_eq]; lia, ?_⟩
      exact h
  · have m0 : m = 0 := by lia
    subst m0
    tm_at "w"
    tm_at "slTo"
    tm_at "w"
    refine ⟨_, _, rfl, rfl, by rw [sizeLine_eq]; lia, ?_⟩
    exact h
end
section
variable {G : Md} {A : Around} {H F : AH} {Q : AV → AH → Prop}
theorem sp_whole (g : GO G) (ar : Ar 1 A) {n : Int} (h0 : 0 ≤ n) (h1 : ¬ (1000000000000000000 ≤ n)) (hi : n.natAbs.log2 < 1920) (hl : (Str.ofString (toString n)).length ≤ 1000) (h : ∀ H', Keep [] H H' → Q (.str (Txt.join "" [Str.ofString (toString n)])) H') : CC G A 150 [.int n] Q H := by
  refine go1 g ar (fx150 g) rfl ?_
  intro A env ar eo hsc
  tm_at "w"
  refine cv_abs ?_
  rw [if_neg (by lia)]
  tm_at "w"
  rename_i aN fN
  refine wx_While (fun _ σ' => σ'.H = upd H aN (.list []) ∧ σ'.m "rest" = some (.int n) ∧ σ'.m "n" = some (.int n) ∧ σ'.m "row" = some (.ref aN)) 0 ⟨rfl, by tm_at "look", by tm_at "look", by tm_at "look"⟩ ?_
  rintro _ ⟨H', m⟩ ⟨rfl, m1, m2, m3⟩
  tm_at "w"
  refine b_pow (by decide) (by decide) ?_
  tm_at "w"
  refine ite_dec (fun q => absurd q h1) (fun _ => ?_)
  tm_at "w"
  refine ⟨⟨[], upd_same _ _ _⟩, ?_⟩
  tm_at "w"
  refine cv_str hi ?_
  refine ⟨[], upd_same _ _ _, by rw [sizeLine_eq]; decide, ?_⟩
  tm_at "w"
  tm_at "w"
  refine ite_dec (fun q => absurd q (by lia)) (fun _ => ?_)
  tm_at "w"
  refine ⟨_, _, rfl, upd_same _ _ _, by rw [sizeLine_eq]; simp, ?_⟩
  tm_at "w"
  refine ⟨.str _, ?_⟩
  tm_at "w"
  refine cv_join (sep := "") (xs := [Str.ofString (toString n)]) (upd_same _ _ _) (by simp only [List.map_cons, List.map_nil, List.sum_cons, List.sum_nil, List.length_cons, List.length_nil]; rw [show Str.length "" = 0 by decide +kernel]; lia) ?_
  tm_at "w"
  exact h _ ((((Keep.refl.new fN).own fN).own fN))
inductive N3 : Int → Int → Str → Nat → Nat → Prop
  | z : N3 0 1 "000000000000000" 1 0
  | h : N3 3 2 "150000000000000" 2 1
  | m : N3 (-2) 1 "200000000000000" 1 0
theorem sp_sig3 (g : GO G) (ar : Ar 3 A) {x : Addr} {n d : Int} {t : Str} {c p : Nat} (k : N3 n d t c p) (hx : H x = some (.tup [.int n, .int d])) (h : ∀ H' a s, Keep [] H H' → H' a = some (.tup [.int s, .str t, .int 0]) → Q (.ref a) H') : CC G A 171 [.ref x, .int 15] Q H := by
  cases k with
  | z => exact sp_signif0 g ar hx fun H' a k e => h H' a 0 k e
  | h => exact sp_signif g ar (q := 150000000000000) hx (by decide) (by decide) (by decide) (by decide) (by decide) (by decide) (by decide) (by decide +kernel) fun H' a s k e => h H' a s k (by rw [e, show Str.ofString (toString (150000000000000 : Int)) = "150000000000000" by decide +kernel])
  | m => exact sp_signif g ar (q := 200000000000000) hx (by decide) (by decide) (by decide) (by decide) (by decide) (by decide) (by decide) (by decide +kernel) fun H' a s k e => h H' a s k (by rw [e, show Str.ofString (toString (200000000000000 : Int)) = "200000000000000" by decide +kernel])
theorem n3_tail {n d : Int} {t : Str} {c p : Nat} (k : N3 n d t c p) : t.length = 15 ∧ 1 ≤ c ∧ c ≤ 2 ∧ p = c - 1 ∧ (∀ j, j < 15 → c ≤ j → Txt.item t j = "0") ∧ (1 < c → Txt.item t ((c : Int) - 1) ≠ "0") ∧ (Txt.slice t none (some (c : Int))).length = c ∧ 0 < d := by
  cases k <;> exact ⟨by decide +kernel, by decide, by decide, by decide, by decide +kernel, by decide +kernel, by decide +kernel, by decide⟩
theorem sp_meas (g : GO G) (ar : Ar 4 A) {x : Addr} {n d : Int} {t : Str} {c p : Nat} (k : N3 n d t c p) (hx : H x = some (.tup [.int n, .int d])) (h : ∀ H' a, Keep [] H H' → H' a = some (.tup [.int c, .int (if n < 0 then 2 else 1), .int p, .int 0]) → Q (.ref a) H') : CC G A 199 [.ref x, .int 15] Q H := by
  refine go2 g ar (fx199 g) rfl ?_
  intro A env ar eo hsc
  obtain ⟨tl, c1, c2, pc, z1, z2, z3, _⟩ := n3_tail k
  tm_at "w"
  refine (sp_sig3 g (ar.le (by decide)) k hx fun H' a s k1 e1 => ?_).cv
  tm_at "w"
  refine (sp_notail g (ar.le (by decide)) (by lia) c1 (by lia) (fun j a b => z1 j (by lia) a) z2 ?_).cv
  tm_at "w"
  refine cv_len_str (by rw [z3]; lia) ?_
  rw [z3]
  tm_at "w"
  refine cv_max2 ar.hh ?_
  tm_at "w"
  have hx' := k1.le _ _ hx
  tm_at "w"
  refine ite_dec (fun q => ?_) (fun q => ?_)
  · tm_at "w"
    refine cv_max2 ar.hh ?_
    tm_at "w"
    refine h _ _ (k1.new (by assumption)) ((upd_same _ _ _).trans ?_)
    rw [if_pos q]
    congr 6
    · lia
  · tm_at "w"
    refine cv_max2 ar.hh ?_
    tm_at "w"
    refine h _ _ (k1.new (by assumption)) ((upd_same _ _ _).trans ?_)
    rw [if_neg q]
    congr 6
    · lia
end
section
variable {G : Md} {A : Around} {H F : AH} {Q : AV → AH → Prop}
theorem sp_chosen0 (g : GO G) (ar : Ar 1 A) {l : Addr} (hl : H l = some (.list [])) (h : ∀ H' a, Keep [] H H' → H' a = some (.tup [.str "fixed", .int 0]) → Q (.ref a) H') : CC G A 206 [.ref l, .int 15] Q H := by
  refine go2 g ar (fx206 g) rfl ?_
  intro A env ar eo hsc
  tm_at "w"
  refine for_list (xs := []) (fun i σ' => σ'.H = H ∧ σ'.m "count" = some (.int 1) ∧ σ'.m "left" = some (.int 1) ∧ σ'.m "places" = some (.int 0) ∧ σ'.m "wide" = some (.int 0) ∧ σ'.m "minus" = some (.int 0)) hl ⟨rfl, by tm_at "look", by tm_at "look", by tm_at "look", by tm_at "look", by tm_at "look"⟩ (fun i σ' e => by rw [e.1]; exact hl) (fun i Po hPo v σ' hi => by simp at hi) ?_
  rintro ⟨H', m⟩ ⟨rfl, m1, m2, m3, m4, m5⟩
  tm_at "w"
  exact h _ _ (Keep.refl.new (by assumption)) (upd_same _ _ _)
theorem sp_chosen1 (g : GO G) (ar : Ar 5 A) {l x : Addr} {n d : Int} {t : Str} {c p : Nat} (k : N3 n d t c p) (hx : H x = some (.tup [.int n, .int d])) (hl : H l = some (.list [.ref x])) (h : ∀ H' a, Keep [] H H' → H' a = some (.tup [.str "fixed", .int p]) → Q (.ref a) H') : CC G A 206 [.ref l, .int 15] Q H := by
  refine go2 g ar (fx206 g) rfl ?_
  intro A env ar eo hsc
  tm_at "w"
  refine for_list (xs := [.ref x]) (fun i σ' => Keep [] H σ'.H ∧ σ'.m "count" = some (.int (if i = 0 then 1 else (c : Int))) ∧ σ'.m "left" = some (.int (if i = 0 then 1 else if n < 0 then 2 else 1)) ∧ σ'.m "places" = some (.int (if i = 0 then 0 else (p : Int))) ∧ σ'.m "wide" = some (.int 0) ∧ σ'.m "minus" = some (.int (if i = 0 then 0 else if n < 0 then 1 else 0)) ∧ σ'.m "digits" = some (.int 15)) hl ⟨Keep.refl, by tm_at "lv"; rfl, by tm_at "lv"; rfl, by tm_at "lv"; rfl, by tm_at "look", by tm_at "lv"; rfl, by tm_at "look"⟩ (fun i σ' e => e.1.le _ _ hl) ?_ ?_
  · rintro i Po hPo v ⟨H', m⟩ hi hv ⟨k1, m1, m2, m3, m4, m5, m6⟩
    have i0 : i = 0 := by simpa using hi
    subst i0
    cases hv
    have hx' := k1.le _ _ hx
    rw [if_pos rfl] at m1 m2 m3 m5
    tm_at "w"
    refine (sp_meas g (ar.le (by decide)) k (k1.le _ _ hx) fun H'' a k2 e1 => ?_).cv
    have hx'' := k2.le _ _ hx'
    tm_at "w"
    refine cv_max2 ar.hh ?_
    tm_at "w"
    refine cv_max2 ar.hh ?_
    tm_at "w"
    refine cv_max2 ar.hh ?_
    tm_at "w"
    refine cv_abs ?_
    rw [if_neg (show ¬ ((0 : Int) < 0) by decide)]
    tm_at "w"
    have k3 := k1.trans k2
    obtain ⟨tl, c1, c2, pc, -⟩ := n3_tail k
    refine ite_dec (fun q => ?_) (fun q => ?_)
    · tm_at "w"
      refine ⟨k3, by tm_at "lv"; simp; lia, by tm_at "lv"; simp [q]; decide, by tm_at "lv"; simp, by tm_at "look", by tm_at "lv"; simp [q], by tm_at "look"⟩
    · tm_at "w"
      refine ⟨k3, by tm_at "lv"; simp; lia, by tm_at "lv"; simp [q], by tm_at "lv"; simp, by tm_at "look", by rw [show (if 0 + 1 = 0 then (0 : Int) else if n < 0 then 1 else 0) = 0 by simp [q]]; tm_at "look", by tm_at "look"⟩
  · rintro ⟨H', m⟩ ⟨k1, m1, m2, m3, m4, m5, m6⟩
    change m _ = some (.int (c : Int)) at m1
    change m _ = some (.int (if n < 0 then 2 else 1)) at m2
    change m _ = some (.int (p : Int)) at m3
    change m _ = some (.int (if n < 0 then 1 else 0)) at m5
    have fin : ∀ H'' a, Keep [] H' H'' → H'' a = some (.tup [.str "fixed", .int p]) → Q (.ref a) H'' := fun H'' a k e => h _ _ (k1.trans k) e
    clear h
    cases k <;> simp at m1 m2 m3 m5 <;> tm_at "w" <;> exact fin _ _ (Keep.refl.new (by assumption)) (upd_same _ _ _)
end
section
variable {G : Md} {A : Around} {H F : AH} {Q : AV → AH → Prop}
theorem cv_rjust' {x c y : Str} {n : Int} (hp : PadOk n = true) (hf : c.length = 1) (e : Txt.rjustF x n (c.cps.getD 0 0) = y) (h : Q (.str y) H) : CV G A (.builtin "str.rjust") [.str x, .int n, .str c] Q H := cv_rjust hp hf (by rw [e]; exact h)
theorem sp_fixed (g : GO G) (ar : Ar 2 A) {x : Addr} {n d : Int} {t : Str} {c p : Nat} (k : N3 n d t c p) (hx : H x = some (.tup [.int n, .int d])) (h : ∀ H', Keep [] H H' → Q (.str (n3t n)) H') : CC G A 192 [.ref x, .int p] Q H := by
  refine go2 g ar (fx192 g) rfl ?_
  intro A env ar eo hsc
  tm_at "w"
  refine cv_abs ?_
  tm_at "w"
  refine b_pow (by lia) (by cases k <;> decide) ?_
  tm_at "w"
  refine b_mul (by cases k <;> exact mul_small (by decide)) ?_
  tm_at "w"
  cases k with
  | z =>
    refine (sp_nearest g (ar.le (by decide)) (q := 0) (by decide) (by decide) (by decide) ?_).cv
    tm_at "w"
    refine (sp_whole g (ar.le (by decide)) (by decide) (by decide) (by decide +kernel) (by decide +kernel) fun H' k1 => ?_).cv
    rw [show Txt.join "" [Str.ofString (toString (0 : Int))] = "0" by decide +kernel]
    have hx' := k1.le _ _ hx
    refine ⟨.str _, ?_⟩
    tm_at "w"
    refine cv_rjust' (y := "0") (by decide +kernel) (by decide +kernel) (by decide +kernel) ?_
    tm_at "w"
    exact h _ k1
  | h =>
    refine (sp_nearest g (ar.le (by decide)) (q := 15) (by decide) (by decide) (by decide) ?_).cv
    tm_at "w"
    refine (sp_whole g (ar.le (by decide)) (by decide) (by decide) (by decide +kernel) (by decide +kernel) fun H' k1 => ?_).cv
    rw [show Txt.join "" [Str.ofString (toString (15 : Int))] = "15" by decide +kernel]
    have hx' := k1.le _ _ hx
    refine ⟨.str _, ?_⟩
    tm_at "w"
    refine cv_rjust' (y := "15") (by decide +kernel) (by decide +kernel) (by decide +kernel) ?_
    tm_at "w"
    tm_at "slTo"
    tm_at "w"
    refine cv_len_str (by decide +kernel) ?_
    rw [show Str.length "15" = 2 by decide +kernel]
    tm_at "w"
    refine ⟨_, _, rfl, rfl, by decide +kernel, ?_⟩
    rw [show Txt.slice "15" none (some (((2 : Nat) : Int) - ((1 : Nat) : Int))) = "1" by decide +kernel]
    tm_at "w"
    refine b_adds (by decide +kernel) ?_
    tm_at "w"
    tm_at "slFr"
    tm_at "w"
    refine cv_len_str (by decide +kernel) ?_
    rw [show Str.length "15" = 2 by decide +kernel]
    tm_at "w"
    refine ⟨_, _, rfl, rfl, by decide +kernel, ?_⟩
    rw [show Txt.slice "15" (some (((2 : Nat) : Int) - ((1 : Nat) : Int))) none = "5" by decide +kernel]
    refine b_adds (by decide +kernel) ?_
    rw [show (("1" : Str) ++ ("." : Str) ++ ("5" : Str)) = n3t 3 by decide +kernel]
    tm_at "w"
    exact h _ k1
  | m =>
    refine (sp_nearest g (ar.le (by decide)) (q := 2) (by decide) (by decide) (by decide) ?_).cv
    tm_at "w"
    refine (sp_whole g (ar.le (by decide)) (by decide) (by decide) (by decide +kernel) (by decide +kernel) fun H' k1 => ?_).cv
    rw [show Txt.join "" [Str.ofString (toString (2 : Int))] = "2" by decide +kernel]
    have hx' := k1.le _ _ hx
    refine ⟨.str _, ?_⟩
    tm_at "w"
    refine cv_rjust' (y := "2") (by decide +kernel) (by decide +kernel) (by decide +kernel) ?_
    tm_at "w"
    refine b_adds (by decide +kernel) ?_
    rw [show (("-" : Str) ++ ("2" : Str)) = n3t (-2) by decide +kernel]
    tm_at "w"
    exact h _ k1
end
section
variable {G : Md} {A : Around} {H F : AH} {Q : AV → AH → Prop}
/-- a double of the law, its text -/
inductive DT : Int → Int → Str → Prop
  | fin {n d : Int} {t : Str} {c p : Nat} (k : N3 n d t c p) : DT n d (n3t n)
  | nan : DT 0 0 "NaN"
  | inf : DT 1 0 "Inf"
theorem sp_formed3 (g : GO G) (ar : Ar 3 A) {x f : Addr} {n d : Int} {t : Str} {c p : Nat} (k : N3 n d t c p) (hx : H x = some (.tup [.int n, .int d])) (hf : H f = some (.tup [.str "fixed", .int p])) (h : ∀ H', Keep [] H H' → Q (.str (n3t n)) H') : CC G A 213 [.ref x, .ref f] Q H := by
  refine go2 g ar (fx213 g) rfl ?_
  intro A env ar eo hsc
  have := (n3_tail k).2.2.2.2.2.2.2
  tm_at "w"
  refine (sp_special g (ar.le (by decide)) hx this ?_).cv
  tm_at "w"
  refine (sp_fixed g (ar.le (by decide)) k hx fun H' k1 => ?_).cv
  tm_at "w"
  exact h _ k1
theorem sp_formed0 (g : GO G) (ar : Ar 3 A) {x f : Addr} (hx : H x = some (.tup [.int 0, .int 0])) (h : Q (.str "NaN") H) : CC G A 213 [.ref x, .ref f] Q H := by
  refine go2 g ar (fx213 g) rfl ?_
  intro A env ar eo hsc
  tm_at "w"
  refine (sp_special0 g (ar.le (by decide)) hx ?_).cv
  tm_at "w"
  exact h
theorem sp_formed1 (g : GO G) (ar : Ar 3 A) {x f : Addr} (hx : H x = some (.tup [.int 1, .int 0])) (h : Q (.str "Inf") H) : CC G A 213 [.ref x, .ref f] Q H := by
  refine go2 g ar (fx213 g) rfl ?_
  intro A env ar eo hsc
  tm_at "w"
  refine (sp_special1 g (ar.le (by decide)) hx ?_).cv
  tm_at "w"
  exact h
theorem sp_chosen (g : GO G) (ar : Ar 5 A) {l x : Addr} {n d : Int} {s : Str} (k : DT n d s) (hx : H x = some (.tup [.int n, .int d])) (hl : H l = some (.list (if 0 < d then [.ref x] else []))) (h : ∀ H' a, Keep [] H H' → (0 < d → ∃ p c t, N3 n d t c p ∧ H' a = some (.tup [.str "fixed", .int p])) → Q (.ref a) H') : CC G A 206 [.ref l, .int 15] Q H := by
  by_cases q : 0 < d
  · cases k with
    | fin kk =>
      rw [if_pos q] at hl
      exact sp_chosen1 g ar kk hx hl fun H2 f k2 ef => h _ _ k2 fun _ => ⟨_, _, _, kk, ef⟩
    | nan => exact absurd q (by decide)
    | inf => exact absurd q (by decide)
  · rw [if_neg q] at hl
    exact sp_chosen0 g (ar.le (by decide)) hl fun H2 f k2 ef => h _ _ k2 fun z => absurd z q
theorem sp_common (g : GO G) (ar : Ar 6 A) {l x : Addr} {n d : Int} {s : Str} (k : DT n d s) (hl : H l = some (.list [.ref x])) (hx : H x = some (.tup [.int n, .int d])) (h : ∀ H' a, Keep [] H H' → H' a = some (.list [.str s]) → Q (.ref a) H') : CC G A 218 [.ref l, .int 15] Q H := by
  refine go2 g ar (fx218 g) rfl ?_
  intro A env ar eo hsc
  tm_at "w"
  refine comp_if1 (if 0 < d then [.ref x] else []) hl rfl hsc ?_ ?_
  · intro D cenv σ' nD eo hsc k1 hD
    have hx' := k1.le _ _ hx
    tm_at "w"
    refine ite_dec (fun q => ?_) (fun q => ?_)
    · tm_at "w"
      refine ⟨[], hD, by rw [sizeLine_eq]; decide, k1.own nD, ?_⟩
      rw [if_pos q]; exact upd_same _ _ _
    · tm_at "w"
      exact ⟨k1, by rw [if_neg q]; exact hD⟩
  · intro D H' nD k1 hD
    tm_at "w"
    refine (sp_chosen g (ar.le (by decide)) k (k1.le _ _ hx) hD fun H2 f k2 hf => ?_).cv
    have k12 := k1.trans k2
    tm_at "w"
    refine comp_map [("form", .ref f)] [] (fun _ => True) (fun _ u _ => u = .str s) (.list (k12.le _ _ hl)) hsc rfl ?_ .nil (fun H' k _ => k.le _ _ (k12.le _ _ hl)) trivial (fun _ _ _ _ _ => trivial) (fun _ _ _ _ _ h => h) (by simp) ?_ ?_
    · intro p hp
      rw [List.mem_singleton] at hp
      subst hp
      tm_at "look"
    · intro D i v cenv σ' nD aD eo hsc hi hp k3 _ hc Po hPo
      have i0 : i = 0 := by simpa using hi
      subst i0
      cases hp
      have hform := hc _ (List.mem_singleton.mpr rfl)
      dsimp only at hform
      have hx' := (k12.trans k3).le _ _ hx
      have fin : ∀ (H3 : AH) (w : AV), Keep [] σ'.H H3 → Keep [] σ'.H H3 ∧ True ∧ AV.str s = .str s ∧ ∀ p ∈ [(("form" : Str), AV.ref f)], put σ'.m "x" w p.1 = some p.2 := fun H3 w k => ⟨k, trivial, rfl, fun p hp => by rw [List.mem_singleton] at hp; subst hp; tm_at "look"⟩
      tm_at "w"
      cases k with
      | fin kk =>
        obtain ⟨p', c', t', kk', ef⟩ := hf (n3_tail kk).2.2.2.2.2.2.2
        refine (sp_formed3 g (ar.le (by decide)) kk' hx' (k3.le _ _ ef) fun H3 k4 => ?_).cv
        exact hPo _ _ (fin _ _ k4)
      | nan =>
        refine (sp_formed0 g (ar.le (by decide)) hx' ?_).cv
        exact hPo _ _ (fin _ _ .refl)
      | inf =>
        refine (sp_formed1 g (ar.le (by decide)) hx' ?_).cv
        exact hPo _ _ (fin _ _ .refl)
    · intro D H3 ys nD k3 _ hD hn hy
      tm_at "w"
      refine h _ _ (k12.trans k3) ?_
      match ys, hn with
      | [y], _ => rw [hD, hy 0 y rfl]
theorem sp_number (g : GO G) (ar : Ar 7 A) {x : Addr} {n d : Int} {s : Str} (k : DT n d s) (hx : H x = some (.tup [.int n, .int d])) (h : ∀ H', Keep [] H H' → Q (.str s) H') : CC G A 226 [.ref x, .int 15] Q H := by
  refine' g.enterD [("x", .ref x), ("digits", .int 15)] ar _ _ _ _ _ _ _ _
  rotate_left 5
  · k_is
  · k_is
  · rfl
  · exact ⟨rfl, rfl, rfl, rfl, rfl, rfl, rfl⟩
  · rfl
  · intro us eu s X
    obtain ⟨u1, u2, rfl, e1, e2⟩ := us2 eu
    have hD : s.heap.get? 219 = _ := X _ _ (by k_is)
    refine ⟨[("x", u1), ("digits", u2)], BindsTo.of_defaults rfl hD rfl rfl ?_, ?_⟩
    · kernel_rfl
    · simp only [List.map_cons, List.map_nil, e1, e2]
  · kernel_rfl
  intro A env ar eo hsc
  dsimp only [bindM, List.foldl_cons, List.foldl_nil]
  tm_at "w"
  rename_i aN fN
  refine (sp_common g (ar.le (by decide)) k (upd_same _ _ _) ((upd_ne _ _ fun q => by rw [q, fN] at hx; cases hx).trans hx) fun H' a k1 e => ?_).cv
  tm_at "w"
  exact h _ ((Keep.refl.new fN).trans k1)
end
section
variable {G : Md} {A : Around} {H F : AH} {Q : AV → AH → Prop}
theorem sp_toint (g : GO G) (ar : Ar 1 A) {a n : AV} (ha : a = .none ∨ ∃ i, a = .int i) (h : Q a H) : CC G A 423 [.str "logical", a, n] Q H := by
  refine go3 g ar (fx423 g) rfl ?_
  intro A env ar eo hsc
  rcases ha with rfl | ⟨i, rfl⟩
  · tm_at "w"
    exact h
  · tm_at "w"
    exact h
theorem sp_todbl0 (g : GO G) (ar : Ar 2 A) {k : Str} {n : AV} (hk : k = "logical" ∨ k = "integer") (h : Q .none H) : CC G A 430 [.str k, .none, n] Q H := by
  refine go3 g ar (fx430 g) rfl ?_
  intro A env ar eo hsc
  rcases hk with rfl | rfl
  · tm_at "w"
    exact h
  · tm_at "w"
    exact h
theorem sp_todbl1 (g : GO G) (ar : Ar 2 A) {k : Str} {n : AV} {i : Int} (hk : k = "logical" ∨ k = "integer") (h : ∀ H' a, Keep [] H H' → H a = none → H' a = some (.tup [.int i, .int 1]) → Q (.ref a) H') : CC G A 430 [.str k, .int i, n] Q H := by
  refine go3 g ar (fx430 g) rfl ?_
  intro A env ar eo hsc
  rcases hk with rfl | rfl
  · tm_at "w"
    refine (sp_fromint g (ar.le (by decide)) fun H' a k na e => ?_).cv
    tm_at "w"
    exact h _ _ k na e
  · tm_at "w"
    refine (sp_fromint g (ar.le (by decide)) fun H' a k na e => ?_).cv
    tm_at "w"
    exact h _ _ k na e
theorem sp_totext0 (g : GO G) (ar : Ar 8 A) {k : Str} (h : Q .none H) : CC G A 437 [.str k, .none] Q H := by
  refine go2 g ar (fx437 g) rfl ?_
  intro A env ar eo hsc
  tm_at "w"
  exact h
theorem sp_totextL (g : GO G) (ar : Ar 8 A) {i : Int} (h : Q (.str (if i = 1 then "TRUE" else "FALSE")) H) : CC G A 437 [.str "logical", .int i] Q H := by
  refine go2 g ar (fx437 g) rfl ?_
  intro A env ar eo hsc
  tm_at "w"
  refine ite_dec (fun q => ?_) (fun q => ?_)
  · tm_at "w"
    rw [if_pos q] at h; exact h
  · tm_at "w"
    rw [if_neg q] at h; exact h
theorem sp_totextI (g : GO G) (ar : Ar 8 A) {i : Int} (hi : i.natAbs.log2 < 1920) (h : Q (.str (Str.ofString (toString i))) H) : CC G A 437 [.str "integer", .int i] Q H := by
  refine go2 g ar (fx437 g) rfl ?_
  intro A env ar eo hsc
  tm_at "w"
  refine cv_str hi ?_
  tm_at "w"
  exact h
theorem sp_totextD (g : GO G) (ar : Ar 8 A) {x : Addr} {n d : Int} {s : Str} (k : DT n d s) (hx : H x = some (.tup [.int n, .int d])) (h : ∀ H', Keep [] H H' → Q (.str s) H') : CC G A 437 [.str "double", .ref x] Q H := by
  refine go2 g ar (fx437 g) rfl ?_
  intro A env ar eo hsc
  tm_at "w"
  refine (sp_number g (ar.le (by decide)) k hx fun H' k => ?_).cv
  tm_at "w"
  exact h _ k
theorem dt_ok {x : Vv} (h : OkI .db x) : x = .none ∨ ∃ n d, x = .dbl n d ∧ DT n d (dtx n d) := by
  cases h with
  | none => exact .inl rfl
  | d0 => exact .inr ⟨_, _, rfl, DT.fin .z⟩
  | d1 => exact .inr ⟨_, _, rfl, DT.fin .h⟩
  | d2 => exact .inr ⟨_, _, rfl, DT.fin .m⟩
  | d3 => exact .inr ⟨_, _, rfl, DT.nan⟩
  | d4 => exact .inr ⟨_, _, rfl, DT.inf⟩
theorem lg_ok {x : Vv} (h : OkI .lg x) : x = .none ∨ ∃ i, x = .int i ∧ (i = 0 ∨ i = 1) := by
  cases h with
  | none => exact .inl rfl
  | l0 => exact .inr ⟨_, rfl, .inl rfl⟩
  | l1 => exact .inr ⟨_, rfl, .inr rfl⟩
theorem it_ok {x : Vv} (h : OkI .it x) : x = .none ∨ ∃ i, x = .int i ∧ -2 ≤ i ∧ i ≤ 2 := by
  cases h with
  | none => exact .inl rfl
  | i j h h' => exact .inr ⟨_, rfl, h, h'⟩
theorem log2_small {i : Int} (h : -2 ≤ i) (h' : i ≤ 2) : i.natAbs.log2 < 1920 := by
  have : i = -2 ∨ i = -1 ∨ i = 0 ∨ i = 1 ∨ i = 2 := by lia
  rcases this with rfl | rfl | rfl | rfl | rfl <;> decide +kernel
/-- a vector of one item -/
theorem sp_share' (g : GO G) (ar : Ar 1 A) {x d i : Addr} {k : Str} {av : AV} {b c : Bool} {H₀ : AH} (v : VObj H x d k i av b c) (k₀ : Keep [] H₀ H) (nd : H₀ d = none) (h : ∀ H', Keep [] H₀ H' → (∀ a, a ≠ d → H' a = H a ∨ (H a = none ∧ H' a ≠ none)) → VObj H' x d k i av true c → Q (.ref x) H') : CC G A 367 [.ref x] Q H := by
  refine go1 g ar (fx367 g) rfl ?_
  intro A env ar eo hsc
  tm_at "w"
  refine isi_vec g v.vec (Le.refl _) ?_
  tm_at "w"
  refine seta_mk v.x v.d (cV_shared g) (by simp only [List.length_cons, List.length_nil]; decide) ?_
  simp only [dput, ofS_eq, String.reduceEq, if_false, if_true]
  tm_at "w"
  exact h _ (k₀.own nd) (fun a q => .inl (upd_ne _ _ q)) ⟨(upd_ne _ _ v.ne).trans v.x, upd_same _ _ _⟩
end
section
variable {G : Md} {A : Around} {H F : AH} {Q : AV → AH → Prop}
theorem sp_itemls (g : GO G) (ar : Ar 9 A) {k : Kd} {x : Vv} {a n : AV} {S : List Addr} (alive : Alive S H) (hk : k ≠ .ls) (r : RV (cut H S) x a) (h : ∀ H' a', Keep [] H H' → RV (cut H' S) (.vec k [x] .none) a' → Q a' H') : CC G A 444 [.str k.s, a, .str "list", n] Q H := by
  refine go4 g ar (fx444 g) rfl ?_
  intro A env ar eo hsc
  have k1 : ¬ k.s = "list" := by cases k <;> first | exact absurd rfl hk | simp [Kd.s, ofS_eq]
  tm_at "w"
  refine ite_dec (fun q => absurd q k1) (fun _ => ?_)
  tm_at "w"
  refine (sp_atomk g (ar.le (by decide)) hk fun H1 k1 => ?_).cv
  tm_at "w"
  rename_i aN fN
  refine (sp_Vector g (ar.le (by decide)) fun H2 y d k2 ny nd nv => ?_).cv
  tm_at "w"
  have v2 : VObj H2 y d k.s aN .none false false := ⟨nv.x, nv.d⟩
  have K12 : Keep [] H H2 := (k1.new fN).trans k2
  have fN' : H aN = none := k1.fresh (S := []) fN
  have ny' : H y = none := (k1.new fN).fresh (S := []) ny
  have nd' : H d = none := (k1.new fN).fresh (S := []) nd
  have hl2 : H2 aN = some (.list [a]) := k2.le _ _ (upd_same _ _ _)
  have nadd : aN ≠ d := fun q => by rw [q, nv.d] at hl2; cases hl2
  refine (sp_share g (ar.le (by decide)) v2 fun H3 k3 v3 => ?_).cv
  tm_at "w"
  have K13 : Keep [] H H3 := K12.then k3 fun b hb => .inr (by rw [List.mem_singleton] at hb; rw [hb]; exact nd')
  refine h _ _ K13 (rv_vec v3 (k3.get hl2 (by simpa using nadd)) .none (.one (r.mono (cut_keep K13.pure))) (alive.nin ny') (alive.nin nd') (alive.nin fN'))
theorem sp_itemas (g : GO G) (ar : Ar 9 A) {k to : Kd} {x : Vv} {a n : AV} {S : List Addr} (alive : Alive S H) (ok : OkI k x) (lt : k.o < to.o) (r : RV (cut H S) x a) (h : ∀ H' a', Keep [] H H' → RV (cut H' S) (conv k to x) a' → Q a' H') : CC G A 444 [.str k.s, a, .str to.s, n] Q H := by
  have hk : k ≠ .ls := fun e => by subst e; cases to <;> simp [Kd.o] at lt
  cases to with
  | ls => exact sp_itemls g ar alive hk r fun H' a' k' r' => h _ _ k' (by unfold conv; rw [if_neg hk]; exact r')
  | lg => simp [Kd.o] at lt
  | it =>
    have : k = .lg := by cases k <;> simp [Kd.o] at lt ⊢
    subst this
    refine go4 g ar (fx444 g) rfl ?_
    intro A env ar eo hsc
    dsimp only [Kd.s]
    tm_at "w"
    refine (sp_atomk g (ar.le (by decide)) (k := .lg) (by decide) fun H1 k1 => ?_).cv
    tm_at "w"
    refine (sp_toint g (ar.le (by decide)) ?_ ?_).cv
    · rcases lg_ok ok with rfl | ⟨i, rfl, _⟩ <;> cases r
      · exact .inl rfl
      · exact .inr ⟨_, rfl⟩
    tm_at "w"
    exact h _ _ k1 (r.mono (cut_keep k1.pure))
  | db =>
    refine go4 g ar (fx444 g) rfl ?_
    intro A env ar eo hsc
    have k1 : ¬ k.s = "double" := by cases k <;> simp [Kd.s, ofS_eq, Kd.o] at lt ⊢
    simp only [show Kd.s .db = "double" from rfl]
    tm_at "w"
    refine ite_dec (fun q => absurd q k1) (fun _ => ?_)
    tm_at "w"
    refine (sp_atomk g (ar.le (by decide)) hk fun H1 k1 => ?_).cv
    have kk : k.s = "logical" ∨ k.s = "integer" := by cases k <;> simp [Kd.s, Kd.o, ofS_eq] at lt ⊢
    have xx : x = .none ∨ ∃ i, x = .int i := by
      cases k with
      | lg => exact (lg_ok ok).imp id fun ⟨i, e, _⟩ => ⟨i, e⟩
      | it => exact (it_ok ok).imp id fun ⟨i, e, _⟩ => ⟨i, e⟩
      | _ => simp [Kd.o] at lt
    have cc : conv k .db x = dblV x := by unfold conv; cases k <;> simp [Kd.o] at lt ⊢
    tm_at "w"
    rcases xx with rfl | ⟨i, rfl⟩
    · cases r
      refine (sp_todbl0 g (ar.le (by decide)) kk ?_).cv
      tm_at "w"
      exact h _ _ k1 (by rw [cc]; exact .none)
    · cases r
      refine (sp_todbl1 g (ar.le (by decide)) kk fun H2 a' k2 na e => ?_).cv
      tm_at "w"
      have na' : H a' = none := k1.fresh (S := []) na
      exact h _ _ (k1.trans k2) (by rw [cc]; exact .dbl (cut_at e (alive.nin na')))
  | ch =>
    refine go4 g ar (fx444 g) rfl ?_
    intro A env ar eo hsc
    have k1 : ¬ k.s = "character" := by cases k <;> simp [Kd.s, ofS_eq, Kd.o] at lt ⊢
    simp only [show Kd.s .ch = "character" from rfl]
    tm_at "w"
    refine ite_dec (fun q => absurd q k1) (fun _ => ?_)
    tm_at "w"
    refine (sp_atomk g (ar.le (by decide)) hk fun H1 kp => ?_).cv
    have cc : conv k .ch x = textV k x := by unfold conv; cases k <;> simp [Kd.o] at lt ⊢
    tm_at "w"
    cases k with
    | lg =>
      rcases lg_ok ok with rfl | ⟨i, rfl, _⟩ <;> cases r
      · refine (sp_totext0 g (ar.le (by decide)) ?_).cv
        tm_at "w"
        exact h _ _ kp (by rw [cc]; exact .none)
      · refine (sp_totextL g (ar.le (by decide)) ?_).cv
        tm_at "w"
        exact h _ _ kp (by rw [cc]; exact .str _)
    | it =>
      rcases it_ok ok with rfl | ⟨i, rfl, h1, h2⟩ <;> cases r
      · refine (sp_totext0 g (ar.le (by decide)) ?_).cv
        tm_at "w"
        exact h _ _ kp (by rw [cc]; exact .none)
      · refine (sp_totextI g (ar.le (by decide)) (log2_small h1 h2) ?_).cv
        tm_at "w"
        exact h _ _ kp (by rw [cc]; exact .str _)
    | db =>
      rcases dt_ok ok with rfl | ⟨n, d, rfl, dt⟩
      · cases r
        refine (sp_totext0 g (ar.le (by decide)) ?_).cv
        tm_at "w"
        exact h _ _ kp (by rw [cc]; exact .none)
      · cases r with
        | dbl e =>
        refine (sp_totextD g (ar.le (by decide)) dt (kp.le _ _ (cut_le _ _ _ _ e)) fun H2 k2 => ?_).cv
        tm_at "w"
        exact h _ _ (kp.trans k2) (by rw [cc]; exact .str _)
    | _ => simp [Kd.o] at lt
end
section
variable {G : Md} {A : Around} {H F : AH} {Q : AV → AH → Prop}
theorem okp_ls {n : Nat} {xs : List Vv} {nm} (h : OkP n (.vec .ls xs nm)) : ∃ m, n = m + 1 ∧ ∀ x ∈ xs, OkP m x := h.ls
theorem sp_count (g : GO G) (u : Bool) : ∀ (n : Nat) (v : Vv), OkP n v → ∀ {A : Around} {H F : AH} {a : AV} {Q : AV → AH → Prop}, Ar (n + 2) A → RV F v a → Le F H → (∀ H', Keep [] H H' → Q (.int (cnt u v)) H') → CC G A 517 [a, .bool u] Q H := by
  intro n
  induction n with
  | zero =>
    intro v ok A H F a Q ar r l h
    refine go2 g ar (fx517 g) rfl ?_
    intro A env ar eo hsc
    rcases ok.cases with rfl | ⟨k, xs, nm, rfl⟩
    · cases r with
      | null hn =>
      tm_at "w"
      exact h _ .refl
    · cases r with
      | vec hv e rn hl hx =>
      have hk := ok.2.2.1
      have hz := ok.len
      tm_at "w"
      refine ite_dec (fun q => absurd q (knull k)) (fun _ => ?_)
      tm_at "w"
      refine (sp_isvec g (ar.le (by decide)) hv (by tm_at "le") ?_).cv
      tm_at "w"
      refine (sp_opens g (ar.le (by decide)) (.vec hv) (by tm_at "le") (kok k) fun H1 k1 => ?_).cv
      rw [klist, decide_eq_false hk, Bool.and_false]
      have e1 := k1.le _ _ (l _ _ e)
      tm_at "w"
      refine cv_len e1 (by lia) ?_
      tm_at "w"
      rw [← hl]
      have := h _ k1
      simp only [cnt, hk, false_and, if_false] at this
      exact this
  | succ n ih =>
    intro v ok A H F a Q ar r l h
    refine go2 g ar (fx517 g) rfl ?_
    intro A env ar eo hsc
    rcases ok.cases with rfl | ⟨k, xs, nm, rfl⟩
    · cases r with
      | null hn =>
      tm_at "w"
      exact h _ .refl
    · cases r with
      | @vec _ _ _ _ i _ avs hv e rn hl hx =>
      have hz := ok.len
      tm_at "w"
      refine ite_dec (fun q => absurd q (knull k)) (fun _ => ?_)
      tm_at "w"
      refine (sp_isvec g (ar.le (by lia)) hv (by tm_at "le") ?_).cv
      tm_at "w"
      refine (sp_opens g (ar.le (by lia)) (.vec hv) (by tm_at "le") (kok k) fun H1 k1 => ?_).cv
      rw [klist]
      have e1 := k1.le _ _ (l _ _ e)
      by_cases hu : u = true ∧ k = .ls
      · obtain ⟨rfl, rfl⟩ := hu
        rw [decide_eq_true rfl, Bool.and_true]
        tm_at "w"
        have hok : ∀ x ∈ xs, OkP n x := by
          obtain ⟨m, hm, h2⟩ := ok.ls
          cases hm; exact h2
        refine for_list (xs := avs) (fun j σ' => Keep [] H σ'.H ∧ σ'.m "recurse" = some (.bool true) ∧ σ'.m "total" = some (.int (cnts true (xs.take j) : Nat))) (by exact e1) ⟨k1, by tm_at "look", by tm_at "lv"; rfl⟩ (fun j σ' h => h.1.le _ _ (l _ _ e)) ?_ ?_
        · rintro j Po hPo v ⟨H2, m⟩ hj hv ⟨k2, m1, m2⟩
          obtain ⟨x, ex⟩ := list_at_len hl hv
          have lF : Le F H2 := le_pure l k2
          tm_at "w"
          refine (ih x (hok x (List.mem_of_getElem? ex)) (ar.le (by lia)) (hx j x v ex hv) lF fun H3 k3 => ?_).cv
          tm_at "w"
          refine ⟨k2.trans k3, by tm_at "look", ?_⟩
          tm_at "lv"
          rw [take_snoc ex, cnts_app, cnts_one]
          congr 1
        · rintro ⟨H2, m⟩ ⟨k2, m1, m2⟩
          rw [← hl, List.take_of_length_le (Nat.le_refl _)] at m2
          tm_at "w"
          have := h _ k2
          simp only [cnt, and_self, if_true] at this
          exact this
      · have : (u && decide (k = .ls)) = false := by
          cases u <;> simp at hu ⊢; exact hu
        rw [this]
        tm_at "w"
        refine cv_len e1 (by lia) ?_
        tm_at "w"
        rw [← hl]
        have := h _ k1
        simp only [cnt, and_comm, hu, if_false] at this
        exact this
end
section
variable {G : Md} {A : Around} {H F : AH} {Q : AV → AH → Prop}
theorem sp_has (g : GO G) (u : Bool) : ∀ (n : Nat) (v : Vv), OkP n v → ∀ {A : Around} {H F : AH} {a : AV} {Q : AV → AH → Prop}, Ar (n + 4) A → RV F v a → Le F H → (∀ H', Keep [] H H' → Q (.bool (hn u v)) H') → CC G A 550 [a, .bool u] Q H := by
  intro n
  induction n with
  | zero =>
    intro v ok A H F a Q ar r l h
    refine go2 g ar (fx550 g) rfl ?_
    intro A env ar eo hsc
    rcases ok.cases with rfl | ⟨k, xs, nm, rfl⟩
    · cases r with
      | null hn =>
      tm_at "w"
      refine (sp_isvec0 g (ar.le (by decide)) hn (by tm_at "le") ?_).cv
      tm_at "w"
      exact h _ .refl
    · cases r with
      | vec hv e rn hl hx =>
      have hk := ok.2.2.1
      have hz := ok.len
      have hnm := ok.nm
      simp only [hn, hk, decide_false, Bool.and_false, Bool.false_and, Bool.or_false] at h
      tm_at "w"
      refine (sp_isvec g (ar.le (by decide)) hv (by tm_at "le") ?_).cv
      tm_at "w"
      cases nm with
      | none =>
        cases rn
        refine (sp_names0 g (ar.le (by decide)) (kok k) hv (by tm_at "le") ?_).cv
        tm_at "w"
        refine (sp_opens g (ar.le (by decide)) (.vec hv) (by tm_at "le") (kok k) fun H1 k1 => ?_).cv
        rw [klist, decide_eq_false hk, Bool.and_false]
        tm_at "w"
        exact h _ k1
      | some nm =>
        have : nm.length ≤ sizeLine := by rw [hnm.1, sizeLine_eq]; lia
        have rn' := rn
        cases rn
        refine (sp_names1 g (ar.le (by decide)) (kok k) hv rn' (by tm_at "le") this fun H1 l1 k1 nl e1 => ?_).cv
        tm_at "w"
        exact h _ k1
  | succ n ih =>
    intro v ok A H F a Q ar r l h
    refine go2 g ar (fx550 g) rfl ?_
    intro A env ar eo hsc
    rcases ok.cases with rfl | ⟨k, xs, nm, rfl⟩
    · cases r with
      | null hn =>
      tm_at "w"
      refine (sp_isvec0 g (ar.le (by lia)) hn (by tm_at "le") ?_).cv
      tm_at "w"
      exact h _ .refl
    · cases r with
      | @vec _ _ _ _ i _ avs hv e rn hl hx =>
      have hz := ok.len
      have hnm := ok.nm
      tm_at "w"
      refine (sp_isvec g (ar.le (by lia)) hv (by tm_at "le") ?_).cv
      tm_at "w"
      cases nm with
      | some nm =>
        have : nm.length ≤ sizeLine := by rw [hnm.1, sizeLine_eq]; lia
        have rn' := rn
        cases rn
        refine (sp_names1 g (ar.le (by lia)) (kok k) hv rn' (by tm_at "le") this fun H1 l1 k1 nl e1 => ?_).cv
        tm_at "w"
        exact h _ k1
      | none =>
        cases rn
        refine (sp_names0 g (ar.le (by lia)) (kok k) hv (by tm_at "le") ?_).cv
        tm_at "w"
        refine (sp_opens g (ar.le (by lia)) (.vec hv) (by tm_at "le") (kok k) fun H1 k1 => ?_).cv
        rw [klist]
        have e1 := k1.le _ _ (l _ _ e)
        simp only [hn, Option.isSome_none, Bool.false_or] at h
        by_cases hu : u = true ∧ k = .ls
        · obtain ⟨rfl, rfl⟩ := hu
          rw [decide_eq_true rfl, Bool.and_true]
          simp only [decide_true, Bool.true_and] at h
          tm_at "w"
          have hok : ∀ x ∈ xs, OkP n x := by
            obtain ⟨m, hm, h2⟩ := ok.ls
            cases hm; exact h2
          refine for_list (xs := avs) (fun j σ' => Keep [] H σ'.H ∧ σ'.m "recurse" = some (.bool true) ∧ hns true (xs.take j) = false) (by exact e1) ⟨k1, by tm_at "look", by simp [hns]⟩ (fun j σ' h => h.1.le _ _ (l _ _ e)) ?_ ?_
          · rintro j Po hPo v ⟨H2, m⟩ hj hv ⟨k2, m1, m2⟩
            obtain ⟨x, ex⟩ := list_at_len hl hv
            have lF : Le F H2 := le_pure l k2
            tm_at "w"
            refine (ih x (hok x (List.mem_of_getElem? ex)) (ar.le (by lia)) (hx j x v ex hv) lF fun H3 k3 => ?_).cv
            tm_at "w"
            refine ite_b (fun q => ?_) (fun q => ?_)
            · tm_at "w"
              have : hns true xs = true := by
                have e1 : xs = xs.take (j + 1) ++ xs.drop (j + 1) := (List.take_append_drop _ _).symm
                rw [e1, hns_app, take_snoc ex, hns_app, hns_one, q]; simp
              rw [this] at h
              exact h _ (k2.trans k3)
            · tm_at "w"
              refine ⟨k2.trans k3, by tm_at "look", ?_⟩
              rw [take_snoc ex, hns_app, hns_one, q, m2]; rfl
          · rintro ⟨H2, m⟩ ⟨k2, m1, m2⟩
            rw [← hl, List.take_of_length_le (Nat.le_refl _)] at m2
            rw [m2] at h
            tm_at "w"
            exact h _ k2
        · have : (u && decide (k = .ls)) = false := by
            cases u <;> simp at hu ⊢; exact hu
          rw [this] at h ⊢
          tm_at "w"
          exact h _ k1
theorem eq_map_of {α β : Type} {ys : List β} {xs : List α} {f : α → β} (hl : ys.length = xs.length) (h : ∀ (i : Nat) u x, ys[i]? = some u → xs[i]? = some x → u = f x) : ys = xs.map f := by
  apply List.ext_getElem (by simpa using hl)
  intro i h1 h2
  rw [List.getElem_map]
  exact h i _ _ (List.getElem?_eq_getElem h1) (List.getElem?_eq_getElem (by simpa using h2))
theorem rep_names (xs : List Vv) (m : Nat) (e : xs.length = m) : (List.replicate m [AV.str ""]).flatten = (nmL xs none).map .str := by
  subst e
  induction xs with
  | nil => rfl
  | cons x xs ih => rw [List.length_cons, List.replicate_succ, List.flatten_cons, ih]; rfl
theorem sp_plain (g : GO G) (ar : Ar 4 A) {x i : Addr} {k : Kd} {av : AV} {avs : List AV} {xs : List Vv} {nm : Option (List (Option Str))} (v : IsVec F x k.s i av) (e : F i = some (.list avs)) (rn : RN F nm av) (l : Le F H) (hz : xs.length ≤ 3) (hnm : OkN xs nm) (hl : xs.length = avs.length)
    (h : ∀ H' l', Keep [] H H' → H l' = none → H' l' = some (.list ((nmL xs nm).map .str)) → Q (.ref l') H') : CC G A 536 [.ref x] Q H := by
  refine go1 g ar (fx536 g) rfl ?_
  intro A env ar eo hsc
  tm_at "w"
  cases nm with
  | none =>
    cases rn
    refine (sp_names0 g (ar.le (by decide)) (kok k) v (by tm_at "le") ?_).cv
    tm_at "w"
    rename_i aN fN
    have e1 := new_get (o := .list [.str ""]) (l _ _ e) fN
    refine cv_len e1 (by lia) ?_
    tm_at "w"
    refine b_mulL (upd_same _ _ _) (by lia) (by lia) (by simp; lia) fun b nb => ?_
    tm_at "w"
    refine h _ _ ((Keep.refl.new fN).new nb) ((Keep.refl.new fN).fresh (S := []) nb) ?_
    rw [upd_same, ← rep_names xs avs.length hl]
    simp
  | some nm =>
    have : nm.length ≤ sizeLine := by rw [hnm.1, sizeLine_eq]; lia
    have rn' := rn
    cases rn
    refine (sp_names1 g (ar.le (by decide)) (kok k) v rn' (by tm_at "le") this fun H1 l1 k1 nl e1 => ?_).cv
    tm_at "w"
    refine comp_map [] [] (fun _ => True) (fun j u _ => ∀ o, nm[j]? = some o → u = .str (o.getD "")) (.list e1) hsc rfl (fun _ h => nomatch h) .nil (fun H' k _ => k.le _ _ e1) trivial (fun _ _ _ _ _ => trivial) (fun _ _ _ _ _ h => h) (by rw [List.length_map, hnm.1]; lia) ?_ ?_
    · intro D j v cenv σ' nD aD eo hsc hi hp k3 _ hc Po hPo
      rw [List.getElem?_map] at hp
      obtain ⟨o, ho, rfl⟩ := Option.map_eq_some_iff.mp hp
      cases o with
      | none =>
        dsimp only [ostr]
        tm_at "w"
        exact ⟨.refl, trivial, fun o e => by rw [ho] at e; cases e; rfl, fun _ h => nomatch h⟩
      | some s =>
        dsimp only [ostr]
        tm_at "w"
        exact ⟨.refl, trivial, fun o e => by rw [ho] at e; cases e; rfl, fun _ h => nomatch h⟩
    · intro D H3 ys nD k3 _ hD hn hy
      tm_at "w"
      refine h _ _ (k1.trans k3) (k1.fresh (S := []) nD) ?_
      rw [hD, nmL, List.map_map]
      rw [List.length_map] at hn
      rw [eq_map_of hn fun i u o e1 e2 => hy i u e1 o e2]
      rfl
end
section
variable {G : Md} {A : Around} {H F : AH} {Q : AV → AH → Prop}
theorem sp_gather (g : GO G) (u : Bool) : ∀ (n : Nat) (v : Vv), OkP n v → ∀ {A : Around} {H F : AH} {a : AV} {l : Addr} {ps : List AV} {Q : AV → AH → Prop}, Ar (n + 2) A → RV F v a → Le F H → F l = none → H l = some (.list ps) → ps.length + pw n ≤ 10000 → (∀ H' ws, Keep [l] H H' → H' l = some (.list (ps ++ ws)) → RVs F (gl u v) ws → Q .none H') → CC G A 564 [a, .bool u, .ref l] Q H := by
  intro n
  induction n with
  | zero =>
    intro v ok A H F a pl ps Q ar r l hF hp hz h
    refine go3 g ar (fx564 g) rfl ?_
    intro A env ar eo hsc
    rcases ok.cases with rfl | ⟨k, xs, nm, rfl⟩
    · cases r with
      | null hn =>
      tm_at "w"
      exact h _ [] .refl (by simpa using hp) .nil
    · have r' := r
      cases r with
      | vec hv e rn hl hx =>
      have hk := ok.2.2.1
      tm_at "w"
      refine ite_dec (fun q => absurd q (knull k)) (fun _ => ?_)
      tm_at "w"
      refine (sp_opens g (ar.le (by decide)) (.vec hv) (by tm_at "le") (kok k) fun H1 k1 => ?_).cv
      rw [klist, decide_eq_false hk, Bool.and_false]
      have e1 := k1.le _ _ hp
      tm_at "w"
      refine ⟨⟨_, e1⟩, ?_⟩
      tm_at "w"
      refine ⟨_, e1, by rw [sizeLine_eq]; lia, ?_⟩
      tm_at "w"
      refine h _ [_] (k1.pure.at (List.mem_singleton.mpr rfl)) (upd_same _ _ _) ?_
      simp only [gl, hk, decide_false, Bool.and_false, Bool.false_eq_true, if_false]
      exact .one r'
  | succ n ih =>
    intro v ok A H F a pl ps Q ar r l hF hp hz h
    refine go3 g ar (fx564 g) rfl ?_
    intro A env ar eo hsc
    rcases ok.cases with rfl | ⟨k, xs, nm, rfl⟩
    · cases r with
      | null hn =>
      tm_at "w"
      exact h _ [] .refl (by simpa using hp) .nil
    · have r' := r
      cases r with
      | @vec _ _ _ _ i _ avs hv e rn hl hx =>
      have hx3 := ok.len
      tm_at "w"
      refine ite_dec (fun q => absurd q (knull k)) (fun _ => ?_)
      tm_at "w"
      refine (sp_opens g (ar.le (by lia)) (.vec hv) (by tm_at "le") (kok k) fun H1 k1 => ?_).cv
      rw [klist]
      have e1 := k1.le _ _ hp
      have e2 := k1.le _ _ (l _ _ e)
      have pp := pw_pos (n + 1)
      by_cases hu : u = true ∧ k = .ls
      · obtain ⟨rfl, rfl⟩ := hu
        rw [decide_eq_true rfl, Bool.and_true]
        simp only [gl, decide_true, Bool.and_self, if_true] at h
        tm_at "w"
        have hok : ∀ x ∈ xs, OkP n x := by
          obtain ⟨m, hm, h2⟩ := ok.ls
          cases hm; exact h2
        have nil : i ≠ pl := fun q => by subst q; rw [hF] at e; cases e
        refine for_list (xs := avs) (fun j σ' => Keep [pl] H σ'.H ∧ σ'.m "recurse" = some (.bool true) ∧ σ'.m "parts" = some (.ref pl) ∧ ∃ ws, σ'.H pl = some (.list (ps ++ ws)) ∧ RVs F (gls true (xs.take j)) ws) (by exact e2) ⟨k1.pure, by tm_at "look", by tm_at "look", [], by simpa using e1, by simp [gls]; exact .nil⟩ (fun j σ' h => h.1.get (l _ _ e) (by simpa using nil)) ?_ ?_
        · rintro j Po hPo v ⟨H2, m⟩ hj hv ⟨k2, m1, m2, ws, w1, w2⟩
          obtain ⟨x, ex⟩ := list_at_len hl hv
          have lF : Le F H2 := le_keep l k2 (fun a q => by rw [List.mem_singleton] at q; rw [q]; exact hF)
          have wl : ws.length ≤ 2 * pw n := by
            rw [← w2.1]
            have := gls_le (u := true) (b := pw n) (xs.take j) fun y hy => gl_le n y (hok y (List.mem_of_mem_take hy))
            have : (xs.take j).length ≤ 2 := by rw [List.length_take]; lia
            have := Nat.mul_le_mul_right (pw n) this
            lia
          simp only [pw] at hz
          tm_at "w"
          refine (ih x (hok x (List.mem_of_getElem? ex)) (ar.le (by lia)) (hx j x v ex hv) lF hF w1 (by rw [List.length_append]; lia) fun H3 ws' k3 e3 r3 => ?_).cv
          tm_at "w"
          refine ⟨k2.trans k3, by tm_at "look", by tm_at "look", ws ++ ws', by rw [← List.append_assoc]; exact e3, ?_⟩
          rw [take_snoc ex, gls_app, gls_one]
          exact w2.app r3
        · rintro ⟨H2, m⟩ ⟨k2, m1, m2, ws, w1, w2⟩
          rw [← hl, List.take_of_length_le (Nat.le_refl _)] at w2
          tm_at "w"
          exact h _ ws k2 w1 w2
      · have hh : (u && decide (k = .ls)) = false := by
          cases u <;> simp at hu ⊢; exact hu
        simp only [gl, hh, Bool.false_eq_true, if_false] at h
        rw [hh]
        tm_at "w"
        refine ⟨⟨_, e1⟩, ?_⟩
        tm_at "w"
        refine ⟨_, e1, by rw [sizeLine_eq]; lia, ?_⟩
        tm_at "w"
        exact h _ [_] (k1.pure.at (List.mem_singleton.mpr rfl)) (upd_same _ _ _) (.one r')
end
section
variable {G : Md} {A : Around} {H F : AH} {Q : AV → AH → Prop}
theorem keep_ne {H : AH} {a b : Addr} {o : AObj} (e : H a = some o) (n : H b = none) : a ≠ b := fun q => by rw [q, n] at e; cases e
theorem sp_with0 (g : GO G) (ar : Ar 1 A) {y : Addr} (h : Q (.ref y) H) : CC G A 477 [.ref y, .none] Q H := by
  refine go2 g ar (fx477 g) rfl ?_
  intro A env ar eo hsc
  tm_at "w"
  exact h
theorem sp_with1 (g : GO G) (ar : Ar 4 A) {y d i l : Addr} {k : Str} {av : AV} {b c : Bool} {nms : List AV} (v : VObj H y d k i av b c) (hl : H l = some (.list nms)) (hz : nms.length ≤ 1000)
    (h : ∀ H' a, Keep [d] H H' → VObj H' y d k i (.ref a) b c → Q (.ref y) H') : CC G A 477 [.ref y, .ref l] Q H := by
  refine go2 g ar (fx477 g) rfl ?_
  intro A env ar eo hsc
  tm_at "w"
  refine we_Dict1 fun a na => ?_
  have la := keep_ne hl na
  have ya := keep_ne v.x na
  have da := keep_ne v.d na
  tm_at "w"
  refine (sp_character g (ar.le (by decide)) ((upd_ne _ _ la).trans hl) (by rw [sizeLine_eq]; lia) fun H2 z zd l' k2 nz nzd nl nv e2 => ?_).cv
  tm_at "w"
  refine (sp_share g (ar.le (by decide)) (NVec.obj nv) fun H3 k3 v3 => ?_).cv
  have zda : a ≠ zd := fun q => by rw [← q, upd_same] at nzd; cases nzd
  have a2 : H2 a = some (.dict []) := k2.le _ _ (upd_same _ _ _)
  have a3 : H3 a = some (.dict []) := k3.get a2 (by simpa using zda)
  have yzd : H zd = none := by rw [upd_ne _ _ (Ne.symm zda)] at nzd; exact nzd
  have vx := k3.get (k2.le _ _ ((upd_ne _ _ ya).trans v.x)) (by simpa using keep_ne v.x yzd)
  have vd := k3.get (k2.le _ _ ((upd_ne _ _ da).trans v.d)) (by simpa using keep_ne v.d yzd)
  refine ⟨a3, ?_⟩
  tm_at "w"
  refine seta_mk ((upd_ne _ _ ya).trans vx) ((upd_ne _ _ da).trans vd) (cV_attrs g) (by simp only [List.length_cons, List.length_nil]; decide) ?_
  simp only [dput, ofS_eq, String.reduceEq, if_false, if_true]
  tm_at "w"
  refine h _ a ?_ ⟨(upd_ne _ _ v.ne).trans ((upd_ne _ _ ya).trans vx), upd_same _ _ _⟩
  have K2 : Keep [] H H2 := (Keep.refl.new na).trans k2
  have K3 : Keep [] H H3 := K2.then k3 fun b hb => .inr (by rw [List.mem_singleton] at hb; rw [hb]; exact yzd)
  exact (K3.own na).pure.at (List.mem_singleton.mpr rfl)
theorem sp_named0 (g : GO G) (ar : Ar 1 A) {y : Addr} (h : Q (.ref y) H) : CC G A 339 [.ref y, .none] Q H := by
  refine go2 g ar (fx339 g) rfl ?_
  intro A env ar eo hsc
  tm_at "w"
  exact h
theorem sp_named1 (g : GO G) (ar : Ar 4 A) {y d i l : Addr} {k : Str} {av : AV} {b c : Bool} {nms : List AV} (v : VObj H y d k i av b c) (hl : H l = some (.list nms)) (hz : nms.length ≤ 1000)
    (h : ∀ H' a z l', Keep [d] H H' → VObj H' y d k i (.ref a) b c → H a = none → H' a = some (.dict [("names", .ref z)]) → IsVec H' z "character" l' .none → H' l' = some (.list nms) → Q (.ref y) H') : CC G A 339 [.ref y, .ref l] Q H := by
  refine go2 g ar (fx339 g) rfl ?_
  intro A env ar eo hsc
  tm_at "w"
  refine we_Dict1 fun a na => ?_
  have la := keep_ne hl na
  have ya := keep_ne v.x na
  have da := keep_ne v.d na
  tm_at "w"
  refine (sp_character g (ar.le (by decide)) ((upd_ne _ _ la).trans hl) (by rw [sizeLine_eq]; lia) fun H2 z zd l' k2 nz nzd nl nv e2 => ?_).cv
  have a2 : H2 a = some (.dict []) := k2.le _ _ (upd_same _ _ _)
  have vx := k2.le _ _ ((upd_ne _ _ ya).trans v.x)
  have vd := k2.le _ _ ((upd_ne _ _ da).trans v.d)
  refine ⟨a2, ?_⟩
  tm_at "w"
  refine seta_mk ((upd_ne _ _ ya).trans vx) ((upd_ne _ _ da).trans vd) (cV_attrs g) (by simp only [List.length_cons, List.length_nil]; decide) ?_
  simp only [dput, ofS_eq, String.reduceEq, if_false, if_true]
  tm_at "w"
  have K2 : Keep [] H H2 := (Keep.refl.new na).trans k2
  have dz : d ≠ z := fun q => by rw [← q, upd_ne _ _ da, v.d] at nz; cases nz
  have dzd : d ≠ zd := fun q => by rw [← q, upd_ne _ _ da, v.d] at nzd; cases nzd
  have dl : d ≠ l' := fun q => by rw [← q, upd_ne _ _ da, v.d] at nl; cases nl
  have az : a ≠ z := fun q => by rw [← q, upd_same] at nz; cases nz
  have azd : a ≠ zd := fun q => by rw [← q, upd_same] at nzd; cases nzd
  have al : a ≠ l' := fun q => by rw [← q, upd_same] at nl; cases nl
  refine h _ a z l' ((K2.own na).pure.at (List.mem_singleton.mpr rfl)) ⟨(upd_ne _ _ v.ne).trans ((upd_ne _ _ ya).trans vx), upd_same _ _ _⟩ na ((upd_ne _ _ (Ne.symm da)).trans (upd_same _ _ _)) ⟨zd, false, false, ?_, ?_⟩ ?_
  · rw [upd_ne _ _ (Ne.symm dz), upd_ne _ _ (Ne.symm az)]; exact nv.x
  · rw [upd_ne _ _ (Ne.symm dzd), upd_ne _ _ (Ne.symm azd)]; exact nv.d
  · rw [upd_ne _ _ (Ne.symm dl), upd_ne _ _ (Ne.symm al)]; exact e2
end
section
variable {G : Md} {A : Around} {H F : AH} {Q : AV → AH → Prop}
theorem if_join {env : Env} {σ : St} {c : Bool} {b rest : List Stmt} {Q : AFl → St → Prop} {i : Decidable (c = true)} (P : St → Prop) (h1 : c = true → WS G A env b (fun f σ' => f = .next ∧ P σ') σ) (h2 : c = false → P σ) (h3 : ∀ σ', P σ' → WS G A env rest Q σ') :
    @ite Prop (c = true) i (WS G A env b (nx G A env rest Q) σ) (WS G A env [] (nx G A env rest Q) σ) := by
  cases c with
  | true => rw [if_pos rfl]; exact WF.mono (h1 rfl) fun f σ' ⟨e, p⟩ => by rw [show absF f = .next from e]; exact h3 _ p
  | false => rw [if_neg (by simp)]; exact ws_nil (h3 _ (h2 rfl))
theorem cut_new' {H : AH} {S : List Addr} {D : Addr} (n : H D = none) : Le (cut H S) (cut H (D :: S)) := cut_cons n
theorem RVs.of_map {F : AH} {f : Vv → Vv} {xs : List Vv} {ys : List AV} (hl : ys.length = xs.length) (h : ∀ (j : Nat) u z, ys[j]? = some u → xs[j]? = some z → RV F (f z) u) : RVs F (xs.map f) ys := ⟨by simp [hl], fun j v a e1 e2 => by
  rw [List.getElem?_map] at e1
  obtain ⟨z, ez, rfl⟩ := Option.map_eq_some_iff.mp e1
  exact h j a z e2 ez⟩
theorem kd_ne {k to : Kd} : decide (k.s ≠ to.s) = decide (k ≠ to) := by cases k <;> cases to <;> simp [Kd.s, ofS_eq]
theorem sp_askind (g : GO G) (ar : Ar 10 A) {k to : Kd} {xs : List Vv} {nm : Option (List (Option Str))} {x nl : Addr} {S : List Addr} (alive : Alive S H) (r : RV (cut H S) (.vec k xs nm) (.ref x)) (le : k.o ≤ to.o) (ok : k ≠ .ls → ∀ x ∈ xs, OkI k x) (hz : xs.length ≤ 3) (hnm : OkN xs nm)
    (h : ∀ H' y d i' av' avs', Keep [] H H' → VObj H' y d to.s i' av' false false → H' i' = some (.list avs') → H i' = none → RVs (cut H' S) (xs.map (conv k to)) avs' → Q (.ref y) H') : CC G A 482 [.ref x, .str to.s, .ref nl] Q H := by
  refine go3 g ar (fx482 g) rfl ?_
  intro A env ar eo hsc
  cases r with
  | @vec _ _ _ _ i av avs hv e rn hl hx =>
  have l0 := cut_le H S
  tm_at "w"
  refine isi_vec g hv l0 ?_
  tm_at "w"
  rw [kd_ne]
  refine if_join (fun σ' => Keep [] H σ'.H ∧ σ'.m "v" = some (.ref x) ∧ σ'.m "kind" = some (.str to.s) ∧ ∃ li avs1, σ'.m "items" = some (.ref li) ∧ σ'.H li = some (.list avs1) ∧ RVs (cut σ'.H S) (xs.map (conv k to)) avs1) (fun q => ?_) (fun q => ?_) ?_
  · have kn : k ≠ to := by simpa using q
    have lt : k.o < to.o := by
      have : k.o ≠ to.o := fun q => kn (by cases k <;> cases to <;> first | rfl | (simp [Kd.o] at q))
      lia
    have kls : k ≠ .ls := fun q => by subst q; cases to <;> simp [Kd.o] at lt
    tm_at "w"
    refine comp_map [("kind", .str to.s), ("notes", .ref nl), ("v", .ref x)] S (fun H' => Keep [] H H') (fun j u F => ∀ z, xs[j]? = some z → RV F (conv k to z) u) (.list (l0.get e)) hsc rfl ?_ alive (fun H' k _ => cut_le _ _ _ _ (cut_keep k _ _ e)) .refl (fun _ _ _ n k => k.own n) (fun _ _ _ _ l h z e => (h z e).mono l) (by lia) ?_ ?_
    · intro p hp
      simp only [List.mem_cons, List.not_mem_nil, or_false] at hp
      rcases hp with rfl | rfl | rfl <;> tm_at "look"
    · intro D j a cenv σ' nD aD eo hsc hj ha k3 j3 hc Po hPo
      have hv2 := hc _ (List.mem_cons_self ..)
      have hv3 := hc _ (List.mem_cons_of_mem _ (List.mem_cons_self ..))
      have hv1 := hc _ (List.mem_cons_of_mem _ (List.mem_cons_of_mem _ (List.mem_cons_self ..)))
      dsimp only at hv1 hv2 hv3
      obtain ⟨z, ez⟩ := list_at_len hl ha
      have LD : Le (cut H S) (cut σ'.H (D :: S)) := (cut_new' nD).trans (cut_keep k3.cons)
      have l1 : Le (cut H S) σ'.H := LD.trans (cut_le _ _)
      have al' : Alive (D :: S) σ'.H := fun b hb => by
        rcases List.mem_cons.mp hb with rfl | hb
        · exact aD
        · exact j3.alive (S := []) (alive b hb)
      tm_at "w"
      refine (sp_itemas g (ar.le (by decide)) (S := D :: S) al' (ok kls z (List.mem_of_getElem? ez)) lt ((hx j z a ez ha).mono LD) fun H' a' k' r' => ?_).cv
      refine hPo _ _ ⟨k'.pure, j3.trans k', fun z' ez' => ?_, fun p hp => ?_⟩
      · rw [ez] at ez'; cases ez'; exact r'
      · simp only [List.mem_cons, List.not_mem_nil, or_false] at hp
        rcases hp with rfl | rfl | rfl <;> tm_at "look"
    · intro D H3 ys nD k3 j3 hD hn hy
      tm_at "w"
      exact ⟨trivial, j3, by tm_at "look", by tm_at "look", D, ys, by tm_at "look", hD, .of_map (hn.trans hl.symm) fun j u z e1 e2 => (hy j u e1 z e2).mono (cut_sub fun a h => .tail _ h)⟩
  · have kn : k = to := by simpa using q
    subst kn
    refine ⟨.refl, by tm_at "look", by tm_at "look", i, avs, by tm_at "look", l0.get e, ?_⟩
    rw [show conv k k = id from funext fun z => if_pos rfl, List.map_id]
    exact ⟨hl, hx⟩
  · rintro ⟨H1, m⟩ ⟨k1, m1, m2, li, avs1, m3, e3, r3⟩
    have r3l := r3.1
    rw [List.length_map] at r3l
    tm_at "w"
    refine cv_list e3 (by rw [sizeLine_eq]; lia) fun lj nj => ?_
    tm_at "w"
    refine (sp_Vector g (ar.le (by decide)) fun H2 y d k2 ny nd nv => ?_).cv
    have K2 : Keep [] H1 H2 := (Keep.refl.new nj).trans k2
    have K02 := k1.trans K2
    have l2 : Le (cut H S) H2 := l0.trans K02.le
    have nlj : H lj = none := k1.fresh (S := []) nj
    have ej : H2 lj = some (.list avs1) := k2.le _ _ (upd_same _ _ _)
    tm_at "w"
    have fin : ∀ H3 H4 av', Keep [] H2 H3 → Keep [d] H3 H4 → VObj H4 y d to.s lj av' false false → Q (.ref y) H4 := fun H3 H4 av' k3 k4 v4 => by
      have nyd : H1 d = none := (Keep.refl.new nj).fresh (S := []) nd
      have nd0 : H d = none := k1.fresh (S := []) nyd
      have K04 : Keep [] H H4 := (K02.trans k3).then k4 fun b hb => .inr (by rw [List.mem_singleton] at hb; rw [hb]; exact nd0)
      have K14 : Keep [] H1 H4 := (K2.trans k3).then k4 fun b hb => .inr (by rw [List.mem_singleton] at hb; rw [hb]; exact nyd)
      have ljd : lj ≠ d := fun q => by rw [q, nv.d] at ej; cases ej
      exact h _ y d lj av' avs1 K04 v4 (k4.get (k3.le _ _ ej) (by simpa using ljd)) nlj (r3.mono (cut_keep K14.pure))
    cases nm with
    | none =>
      cases rn
      refine (sp_names0 g (ar.le (by decide)) (kok k) hv l2 ?_).cv
      tm_at "w"
      refine (sp_with0 g (ar.le (by decide)) ?_).cv
      tm_at "w"
      exact fin _ _ _ .refl .refl ⟨nv.x, nv.d⟩
    | some nm =>
      have : nm.length ≤ sizeLine := by rw [hnm.1, sizeLine_eq]; lia
      have rn' := rn
      cases rn
      refine (sp_names1 g (ar.le (by decide)) (kok k) hv rn' l2 this fun H3 l1 k3 nl e3 => ?_).cv
      tm_at "w"
      refine (sp_with1 g (ar.le (by decide)) (d := d) ⟨k3.le _ _ nv.x, k3.le _ _ nv.d⟩ e3 (by rw [List.length_map, hnm.1]; lia) fun H4 a k4 v4 => ?_).cv
      tm_at "w"
      exact fin _ _ _ k3 k4 v4
theorem sp_partitems (g : GO G) (ar : Ar 11 A) {k to : Kd} {xs : List Vv} {nm : Option (List (Option Str))} {x : Addr} {S : List Addr} (alive : Alive S H) (r : RV (cut H S) (.vec k xs nm) (.ref x)) (le : k.o ≤ to.o) (ok : k ≠ .ls → ∀ x ∈ xs, OkI k x) (hz : xs.length ≤ 3) (hnm : OkN xs nm)
    (h : ∀ H' i' avs', Keep [] H H' → H' i' = some (.list avs') → H i' = none → RVs (cut H' S) (xs.map (conv k to)) avs' → Q (.ref i') H') : CC G A 571 [.ref x, .str to.s] Q H := by
  refine go2 g ar (fx571 g) rfl ?_
  intro A env ar eo hsc
  have r' := r
  cases r with
  | @vec _ _ _ _ i av avs hv e rn hl hx =>
  have l0 := cut_le H S
  tm_at "w"
  refine (sp_isvec g (ar.le (by decide)) hv l0 ?_).cv
  tm_at "w"
  rename_i aN fN
  refine (sp_askind g (ar.le (by decide)) (S := S) (alive.pure (Keep.refl.new fN)) (r'.mono (cut_new fN)) le ok hz hnm fun H2 y d i' av' avs' k2 v2 e2 n2 r2 => ?_).cv
  tm_at "w"
  refine vec_items g v2.vec (Le.refl _) ?_
  tm_at "w"
  exact h _ i' avs' ((Keep.refl.new fN).trans k2) e2 ((Keep.refl.new fN).fresh (S := []) n2) r2
end
section
variable {G : Md} {A : Around} {H F : AH} {Q : AV → AH → Prop}
theorem if_join2 {env : Env} {σ : St} {c : Bool} {b b2 rest : List Stmt} {Q : AFl → St → Prop} {i : Decidable (c = true)} (P : St → Prop) (h1 : c = true → WS G A env b (fun f σ' => f = .next ∧ P σ') σ) (h2 : c = false → WS G A env b2 (fun f σ' => f = .next ∧ P σ') σ) (h3 : ∀ σ', P σ' → WS G A env rest Q σ') :
    @ite Prop (c = true) i (WS G A env b (nx G A env rest Q) σ) (WS G A env b2 (nx G A env rest Q) σ) := by
  cases c with
  | true => rw [if_pos rfl]; exact WF.mono (h1 rfl) fun f σ' ⟨e, p⟩ => by rw [show absF f = .next from e]; exact h3 _ p
  | false => rw [if_neg (by simp)]; exact WF.mono (h2 rfl) fun f σ' ⟨e, p⟩ => by rw [show absF f = .next from e]; exact h3 _ p
theorem NRow.ne {H : AH} {r d l : Addr} {n c : Int} (v : NRow H r d l n c) : r ≠ d := fun e => by
  have := v.x; rw [e, v.d] at this; cases this
theorem NRow.keep {H H' : AH} {S : List Addr} {r d l : Addr} {n c : Int} (v : NRow H r d l n c) (k : Keep S H H') (nr : r ∉ S) (nd : d ∉ S) : NRow H' r d l n c := ⟨k.get v.x nr, k.get v.d nd⟩
theorem row_setnum (g : GO G) {r d l : Addr} {n n' c : Int} {Q : St → Prop} {σ : St} (v : NRow σ.H r d l n c) (h : ∀ H', Keep [d] σ.H H' → NRow H' r d l n' c → (∀ a, a ≠ d → H' a = σ.H a) → Q ⟨H', σ.m⟩) : SETA G "number" (.ref r) (.int n') Q σ := by
  refine seta_mk v.x v.d (cR_number g) (by simp only [List.length_cons, List.length_nil]; decide) ?_
  simp only [dput, ofS_eq, String.reduceEq, if_false, if_true]
  exact h _ (Keep.refl.at (by simp)) ⟨(upd_ne _ _ v.ne).trans v.x, upd_same _ _ _⟩ fun a q => upd_ne _ _ q
theorem row_setcnt (g : GO G) {r d l : Addr} {n c c' : Int} {Q : St → Prop} {σ : St} (v : NRow σ.H r d l n c) (h : ∀ H', Keep [d] σ.H H' → NRow H' r d l n c' → (∀ a, a ≠ d → H' a = σ.H a) → Q ⟨H', σ.m⟩) : SETA G "count" (.ref r) (.int c') Q σ := by
  refine seta_mk v.x v.d (cR_count g) (by simp only [List.length_cons, List.length_nil]; decide) ?_
  simp only [dput, ofS_eq, String.reduceEq, if_false, if_true]
  exact h _ (Keep.refl.at (by simp)) ⟨(upd_ne _ _ v.ne).trans v.x, upd_same _ _ _⟩ fun a q => upd_ne _ _ q
theorem NRow.nel {H : AH} {r d l : Addr} {n c : Int} {xs : List AV} (v : NRow H r d l n c) (e : H l = some (.list xs)) : r ≠ l ∧ d ≠ l := ⟨fun q => (by rw [← q, v.x] at e; cases e), fun q => (by rw [← q, v.d] at e; cases e)⟩
theorem sp_ex (g : GO G) (u : Bool) : ∀ (n : Nat) (v : Vv), OkP n v → ∀ {A : Around} {H F : AH} {a : AV} {r d l : Addr} {ns : List Str} {num c : Nat} {b t : Str} {Q : AV → AH → Prop}, Ar (n + 7) A → RV F v a → Le F H → F d = none → F l = none → NRow H r d l num c → H l = some (.list (ns.map .str)) →
    b.length + 3 * n ≤ 500 → t.length ≤ 1 → num + pw n ≤ 900 → ns.length + pw n ≤ 9000 → (∀ H', Keep [d, l] H H' → NRow H' r d l (num + cnt u v : Nat) c → H' l = some (.list ((ns ++ ex u v b t num c).map .str)) → Q .none H') → CC G A 543 [a, .str b, .str t, .bool u, .ref r] Q H := by
  intro n
  induction n using Nat.strongRecOn with
  | ind n ih =>
    intro v ok A H F a r d l ns num c b t Q ar rv lF Fd Fl row hl bz tz nz lz h
    refine go5 g ar (fx543 g) rfl ?_
    intro A env ar eo hsc
    tm_at "w"
    refine row_count g row ?_
    have cz := cnt_le (u := u) n v ok
    have pz := pw_pos n
    obtain ⟨rl, dl⟩ := row.nel hl
    tm_at "w"
    refine if_join (fun σ' => Keep [d] H σ'.H ∧ NRow σ'.H r d l (if t = S0 then num else 0 : Nat) (if t = S0 then c else cnt u v : Nat) ∧ σ'.m "v" = some a ∧ σ'.m "base" = some (.str (jb b t)) ∧ σ'.m "tag" = some (.str t) ∧ σ'.m "recurse" = some (.bool u) ∧ σ'.m "row" = some (.ref r) ∧ σ'.m "before" = some (.int (if t = S0 then 0 else num : Nat)) ∧ σ'.m "count" = some (.int c)) (fun q => ?_) (fun q => ?_) ?_
    · have q' : ¬ t = S0 := by simpa using q
      simp only [q', if_false]
      tm_at "w"
      refine (sp_jbase g (ar.le (by lia)) (by lia) ?_).cv
      tm_at "w"
      refine row_number g row ?_
      tm_at "w"
      refine row_setnum g row fun H1 k1 row1 o1 => ?_
      tm_at "w"
      have l1 : Le F H1 := le_keep lF k1 (fun a q => by rw [List.mem_singleton] at q; rw [q]; exact Fd)
      refine (sp_count g u n v ok (ar.le (by lia)) rv l1 fun H2 k2 => ?_).cv
      tm_at "w"
      refine row_setcnt g (row1.keep k2 (by simp) (by simp)) fun H3 k3 row3 o3 => ?_
      tm_at "w"
      exact ⟨trivial, (k1.trans k2.pure).trans k3, row3, by tm_at "look", by tm_at "look", by tm_at "look", by tm_at "look", by tm_at "look", by tm_at "look", by tm_at "look"⟩
    · have q' : t = S0 := by simpa using q
      simp only [q', if_true, jb_nil]
      exact ⟨.refl, row, by tm_at "look", by tm_at "look", by tm_at "look", by tm_at "look", by tm_at "look", by tm_at "lv"; rfl, by tm_at "look"⟩
    · rintro ⟨H1, m⟩ ⟨k1, row1, m1, m2, m3, m4, m5, m6, m7⟩
      have hl1 : H1 l = some (.list (ns.map .str)) := k1.get hl (by simpa using Ne.symm dl)
      have lF1 : Le F H1 := le_keep lF k1 (fun a q => by rw [List.mem_singleton] at q; rw [q]; exact Fd)
      have fin : ∀ (H2 : AH), Keep [d, l] H H2 → NRow H2 r d l ((if t = S0 then num else 0) + cnt u v : Nat) (if t = S0 then c else cnt u v : Nat) → H2 l = some (.list ((ns ++ ex u v b t num c).map .str)) → ¬ t = S0 → ∀ m' : Str → Option AV, m' "row" = some (.ref r) → m' "before" = some (.int (if t = S0 then 0 else num : Nat)) → m' "count" = some (.int c) → ∀ p4 p5 p6 p7 p8 p9 p10 p11, 
          WS G A env [.Assign [.Attribute (.Name "row" p4) "count" p5] (.Name "count" p6) p7, .AugAssign (.Attribute (.Name "row" p8) "number" p9) .Add (.Name "before" p10) p11] (nx G A env [] fun fl σ' => Q (retV fl) σ'.H) ⟨H2, m'⟩ := by
        intro H2 k2 row2 l2 q' m' m1 m3 m4 p4 p5 p6 p7 p8 p9 p10 p11
        simp only [q', if_false] at row2 m3
        tm_at "w"
        refine row_setcnt g row2 fun H3 k3 row3 o3 => ?_
        tm_at "w"
        refine row_number g row3 ?_
        tm_at "w"
        refine row_setnum g row3 fun H4 k4 row4 o4 => ?_
        tm_at "w"
        refine h _ ((k2.trans (k3.mono (by simp))).trans (k4.mono (by simp))) ?_ ?_
        · have : (((0 + cnt u v : Nat) : Int) + (num : Nat)) = ((num + cnt u v : Nat) : Int) := by lia
          rw [this] at row4; exact row4
        · exact ((o4 l (Ne.symm dl)).trans (o3 l (Ne.symm dl))).trans l2
      have fin0 : ∀ (H2 : AH), Keep [d, l] H H2 → NRow H2 r d l ((if t = S0 then num else 0) + cnt u v : Nat) (if t = S0 then c else cnt u v : Nat) → H2 l = some (.list ((ns ++ ex u v b t num c).map .str)) → t = S0 → Q .none H2 := by
        intro H2 k2 row2 l2 q'
        simp only [q', if_true] at row2
        exact h _ k2 row2 (by rw [q']; rw [q'] at l2; exact l2)
      have k1' : Keep [d, l] H H1 := k1.mono (by simp)
      rcases ok.cases with rfl | ⟨k, xs, nm, rfl⟩
      · cases rv with
        | null hn =>
        have hl1' : H1 l = some (.list ((ns ++ ex u .null b t num c).map .str)) := by simpa [ex] using hl1
        tm_at "w"
        refine ite_dec (fun q => fin H1 k1' row1 hl1' q _ m5 m6 m7 _ _ _ _ _ _ _ _) (fun q => ?_)
        tm_at "w"
        exact fin0 H1 k1' row1 hl1' (by simpa using q)
      · cases rv with
        | @vec _ _ _ x i av avs hv e rn hlx hx =>
        have hz := ok.len
        have hnm := ok.nm
        tm_at "w"
        refine ite_dec (fun _ => ?_) (fun q => absurd (knull k) q)
        tm_at "w"
        rename_i aN fN
        have K1 : Keep [] H1 (upd H1 aN (.list [.str ""])) := Keep.refl.new fN
        have lF2 : Le F (upd H1 aN (.list [.str ""])) := le_pure lF1 K1
        refine (sp_isvec g (ar.le (by lia)) hv lF2 ?_).cv
        tm_at "w"
        refine (sp_plain g (ar.le (by lia)) hv e rn lF2 hz hnm hlx fun H2 ln k2 nln e2 => ?_).cv
        have lF3 : Le F H2 := le_pure lF2 k2
        tm_at "w"
        refine (sp_opens g (ar.le (by lia)) (.vec hv) lF3 (kok k) fun H3 k3 => ?_).cv
        have K3 := (K1.trans k2).trans k3
        have lF4 : Le F H3 := le_pure lF3 k3
        have e3 := k3.le _ _ e2
        have row3 := row1.keep K3 (by simp) (by simp)
        have hl3 := K3.le _ _ hl1
        have lnd : ln ≠ d := fun q => keep_ne row1.d ((K1.fresh (S := []) nln)) q.symm
        have lnl : ln ≠ l := fun q => keep_ne hl1 ((K1.fresh (S := []) nln)) q.symm
        have ild : i ≠ d := fun q => by rw [q, Fd] at e; cases e
        have ill : i ≠ l := fun q => by rw [q, Fl] at e; cases e
        have jbz := jb_len b t
        rw [klist]
        generalize hnum : (if t = S0 then num else 0) = num1 at *
        generalize hcnt : (if t = S0 then c else cnt u (.vec k xs nm)) = c1 at *
        have num1z : num1 ≤ num := by rw [← hnum]; split <;> lia
        tm_at "w"
        have K13 : Keep [d, l] H H3 := k1'.trans K3.pure
        refine if_join2 (fun σ' => Keep [d, l] H3 σ'.H ∧ NRow σ'.H r d l (num1 + cnt u (.vec k xs nm) : Nat) c1 ∧ σ'.H l = some (.list ((ns ++ ex u (.vec k xs nm) b t num c).map .str)) ∧ σ'.m "tag" = some (.str t) ∧ σ'.m "row" = some (.ref r) ∧ σ'.m "before" = some (.int (if t = S0 then 0 else num : Nat)) ∧ σ'.m "count" = some (.int c)) (fun q => ?_) (fun q => ?_) ?_
        · have qu : u = true := by simp at q; exact q.1
          have qk : k = .ls := by simp at q; exact q.2
          subst qu; subst qk
          obtain ⟨m', rfl, hok⟩ := ok.ls
          simp only [pw] at nz lz
          have exe : ex true (.vec .ls xs nm) b t num c = exs true xs (nmL xs nm) (jb b t) num1 c1 := by
            rw [← hnum, ← hcnt]
            by_cases z : t = S0 <;> simp [ex, cnt, z]
          have cne : cnt true (.vec .ls xs nm) = cnts true xs := by simp [cnt]
          have nl := nmL_len hnm
          have ns1 := nmL_short hnm
          tm_at "w"
          refine cv_len e3 (by rw [List.length_map, nl]; lia) ?_
          tm_at "w"
          refine cv_range fun rg nrg => ?_
          have kr : Keep [] H3 (upd H3 rg (.rng ((nmL xs nm).map AV.str).length)) := Keep.refl.new nrg
          tm_at "w"
          refine for_rng (fun j σ' => Keep [d, l] H3 σ'.H ∧ NRow σ'.H r d l (num1 + cnts true (xs.take j) : Nat) c1 ∧ σ'.H l = some (.list ((ns ++ exs true (xs.take j) ((nmL xs nm).take j) (jb b t) num1 c1).map .str)) ∧ σ'.m "tag" = some (.str t) ∧ σ'.m "row" = some (.ref r) ∧ σ'.m "before" = some (.int (if t = S0 then 0 else num : Nat)) ∧ σ'.m "count" = some (.int c) ∧ σ'.m "v" = some (.ref x) ∧ σ'.m "base" = some (.str (jb b t)) ∧ σ'.m "names" = some (.ref ln) ∧ σ'.m "recurse" = some (.bool true)) (upd_same _ _ _) (by rw [List.length_map, nl]; lia) ?_ ?_ ?_
          · refine ⟨kr.pure, ?_, ?_, by tm_at "look", by tm_at "look", by tm_at "look", by tm_at "look", by tm_at "look", by tm_at "look", by tm_at "look", by tm_at "look"⟩
            · simpa [cnts] using row3.keep kr (by simp) (by simp)
            · simpa [exs] using kr.le _ _ hl3
          · rintro j Po hPo ⟨H4, m4⟩ hj ⟨k4, row4, l4, q1, q2, q3, q4, q5, q6, q7, q8⟩
            rw [List.length_map, nl] at hj
            have ej : xs[j]? = some xs[j] := List.getElem?_eq_getElem hj
            have en : (nmL xs nm)[j]? = some (nmL xs nm)[j] := List.getElem?_eq_getElem (by lia)
            have ea : avs[j]? = some avs[j] := List.getElem?_eq_getElem (by lia)
            have lF5 : Le F H4 := le_keep lF4 k4 (fun a q => by simp at q; rcases q with rfl | rfl <;> assumption)
            have cj : cnts true (xs.take j) ≤ 2 * pw m' := by
              have := cnts_le (u := true) (b := pw m') (xs.take j) fun y hy => cnt_le m' y (hok y (List.mem_of_mem_take hy))
              have : (xs.take j).length ≤ 2 := by rw [List.length_take]; lia
              have := Nat.mul_le_mul_right (pw m') this
              lia
            have xl := exs_len true m' (xs.take j) ((nmL xs nm).take j) (jb b t) num1 c1 (fun y hy => hok y (List.mem_of_mem_take hy)) (by rw [List.length_take, List.length_take, nl])
            tm_at "w"
            refine sub_listJ (x := avs[j]) (lF5 _ _ e) (by lia) (by first | exact ea | exact get_map ea | simp [ea]) ?_
            tm_at "w"
            refine sub_listJ (x := .str (nmL xs nm)[j]) (k4.get e3 (by simp [lnd, lnl])) (by lia) (by first | exact en | exact get_map en | simp [en]) ?_
            tm_at "w"
            refine (ih m' (by lia) xs[j] (hok _ (List.mem_of_getElem? ej)) (b := jb b t) (ar.le (by lia)) (hx j _ _ ej ea) lF5 Fd Fl row4 l4 (by lia) (ns1 _ (List.mem_of_getElem? en)) (by lia) (by rw [List.length_append, xl]; lia) fun H5 k5 row5 l5 => ?_).cv
            tm_at "w"
            refine ⟨k4.trans k5, ?_, ?_, by tm_at "look", by tm_at "look", by tm_at "look", by tm_at "look", by tm_at "look", by tm_at "look", by tm_at "look", by tm_at "look"⟩
            · rw [take_snoc ej, cnts_app, cnts_one]
              rw [← Nat.add_assoc]; exact row5
            · rw [take_snoc ej, take_snoc en, exs_snoc _ _ _ _ _ _ _ _ (by rw [List.length_take, List.length_take, nl]), ← List.append_assoc]
              exact l5
          · rintro ⟨H4, m4⟩ ⟨k4, row4, l4, q1, q2, q3, q4, q5, q6, q7, q8⟩
            rw [List.length_map, nl, List.take_of_length_le (Nat.le_refl _)] at row4
            rw [List.length_map, nl, List.take_of_length_le (Nat.le_refl _), List.take_of_length_le (by lia)] at l4
            tm_at "w"
            refine ⟨trivial, k4, by rw [cne]; exact row4, by rw [exe]; exact l4, q1, q2, q3, q4⟩
        · have hu : ¬ (k = .ls ∧ u = true) := fun z => by rw [z.1, z.2] at q; simp at q
          have cne : cnt u (.vec k xs nm) = xs.length := by simp [cnt, hu]
          have exe : ex u (.vec k xs nm) b t num c = leafs (nmL xs nm) (jb b t) num1 c1 := by
            rw [← hnum, ← hcnt]
            by_cases z : t = S0 <;> simp [ex, hu, z, cne]
          have nl := nmL_len hnm
          have ns1 := nmL_short hnm
          have pz3 := pw_pos n
          tm_at "w"
          refine for_list (xs := (nmL xs nm).map .str) (fun j σ' => Keep [d, l] H3 σ'.H ∧ NRow σ'.H r d l (num1 + j : Nat) c1 ∧ σ'.H l = some (.list ((ns ++ leafs ((nmL xs nm).take j) (jb b t) num1 c1).map .str)) ∧ σ'.m "tag" = some (.str t) ∧ σ'.m "row" = some (.ref r) ∧ σ'.m "before" = some (.int (if t = S0 then 0 else num : Nat)) ∧ σ'.m "count" = some (.int c) ∧ σ'.m "base" = some (.str (jb b t))) (by exact e3) ?_ (fun j σ' h => h.1.get e3 (by simp [lnd, lnl])) ?_ ?_
          · refine ⟨.refl, row3, by simpa [leafs] using hl3, by tm_at "look", by tm_at "look", by tm_at "look", by tm_at "look", by tm_at "look"⟩
          · rintro j Po hPo nmv ⟨H4, m4⟩ hj hnv ⟨k4, row4, l4, q1, q2, q3, q4, q5⟩
            rw [List.length_map, nl] at hj
            have en : (nmL xs nm)[j]? = some (nmL xs nm)[j] := List.getElem?_eq_getElem (by lia)
            rw [List.getElem?_map, en] at hnv
            cases hnv
            tm_at "w"
            refine row_number g row4 ?_
            tm_at "w"
            refine row_setnum g row4 fun H5 k5 row5 o5 => ?_
            have row5' : NRow H5 r d l (num1 + j + 1 : Nat) c1 := by
              have : (((num1 + j : Nat) : Int) + 1) = ((num1 + j + 1 : Nat) : Int) := by lia
              rw [← this]; exact row5
            have l5 := (o5 l (Ne.symm dl)).trans l4
            tm_at "w"
            refine row_names g row5' ?_
            tm_at "w"
            refine ⟨⟨_, l5⟩, ?_⟩
            tm_at "w"
            refine (sp_leafname g (ar.le (by lia)) row5' (by have := ns1 _ (List.mem_of_getElem? en); lia) (by lia) ?_).cv
            refine ⟨_, l5, by rw [sizeLine_eq, List.length_map, List.length_append, leafs_len, List.length_take]; lia, ?_⟩
            tm_at "w"
            refine ⟨(k4.trans (k5.mono (by simp))).at (by simp), ?_, ?_, by tm_at "look", by tm_at "look", by tm_at "look", by tm_at "look", by tm_at "look"⟩
            · exact ⟨(upd_ne _ _ rl).trans row5'.x, (upd_ne _ _ dl).trans row5'.d⟩
            · refine (upd_same _ _ _).trans ?_
              rw [take_snoc en, leafs_snoc, List.length_take, ← List.append_assoc, List.map_append (l₂ := [_]), show min j (nmL xs nm).length = j by lia]
              rfl
          · rintro ⟨H4, m4⟩ ⟨k4, row4, l4, q1, q2, q3, q4, q5⟩
            rw [List.length_map] at row4 l4
            rw [List.take_of_length_le (Nat.le_refl _)] at l4
            tm_at "w"
            refine ⟨trivial, k4, by rw [cne, ← nl]; exact row4, by rw [exe]; exact l4, q1, q2, q3, q4⟩
        · rintro ⟨H4, m4⟩ ⟨k4, row4, l4, q1, q2, q3, q4⟩
          have k04 := K13.trans k4
          rw [← hnum, ← hcnt] at row4
          tm_at "w"
          refine ite_dec (fun q => fin H4 k04 (by rw [hnum, hcnt] at *; exact row4) l4 q _ q2 q3 q4 _ _ _ _ _ _ _ _) (fun q => ?_)
          tm_at "w"
          exact fin0 H4 k04 (by rw [hnum, hcnt] at *; exact row4) l4 (by simpa using q)
end
section
variable {G : Md} {A : Around} {H F : AH} {Q : AV → AH → Prop}
theorem sp_RInit (g : GO G) (ar : Ar 1 A) {x d : Addr} (hx : H x = some (.inst 499 d)) (hdd : H d = some (.dict [])) (hne : x ≠ d)
    (h : ∀ H' l, Keep [d] H H' → NRow H' x d l 0 0 → H l = none → H' l = some (.list []) → Q .none H') : CC G A 496 [.ref x] Q H := by
  refine go1 g ar (fx496 g) rfl ?_
  intro A env ar eo hsc
  tm_at "w"
  rename_i aN fN
  have xa := keep_ne hx fN
  have da := keep_ne hdd fN
  refine seta_mk ((upd_ne _ _ xa).trans hx) ((upd_ne _ _ da).trans hdd) (cR_names g) (by decide) ?_
  tm_at "w"
  refine seta_mk ((upd_ne _ _ hne).trans ((upd_ne _ _ xa).trans hx)) (upd_same _ _ _) (cR_number g) (by simp [dput]) ?_
  tm_at "w"
  refine seta_mk ((upd_ne _ _ hne).trans ((upd_ne _ _ hne).trans ((upd_ne _ _ xa).trans hx))) (upd_same _ _ _) (cR_count g) (by simp [dput, ofS_eq]) ?_
  tm_at "w"
  refine h _ aN ((((Keep.refl.new fN).at (by simp)).at (by simp)).at (by simp)) ⟨?_, ?_⟩ fN ?_
  · exact (upd_ne _ _ hne).trans ((upd_ne _ _ hne).trans ((upd_ne _ _ hne).trans ((upd_ne _ _ xa).trans hx)))
  · refine (upd_same _ _ _).trans ?_
    simp [dput, ofS_eq]
  · exact (upd_ne _ _ (Ne.symm da)).trans ((upd_ne _ _ (Ne.symm da)).trans ((upd_ne _ _ (Ne.symm da)).trans (upd_same _ _ _)))
theorem sp_NameRow (g : GO G) (ar : Ar 2 A) (h : ∀ H' x d l, Keep [] H H' → H x = none → H d = none → H l = none → NRow H' x d l 0 0 → H' l = some (.list []) → Q (.ref x) H') : CC G A 499 [] Q H := by
  refine cmake (fI := 496) g.gd (by rw [g.K]; k_is) (by rw [g.K]; k_is) (by rw [g.K]; k_is) ?_
  intro A' hA d x nd nx ne
  have ar' : Ar 1 A' := by
    rcases hA with rfl | ⟨vals, rfl⟩
    · exact ar.le (by decide)
    · exact ar.make
  have nx' : upd H d (.dict []) x = none := by rw [upd_ne _ _ ne]; exact nx
  refine sp_RInit g ar' (d := d) (upd_same _ _ _) ?_ ne fun H' l k row nl e => ?_
  · rw [upd_ne _ _ (Ne.symm ne), upd_same]
  · have K : Keep [] H (upd (upd H d (.dict [])) x (.inst 499 d)) := (Keep.refl.new nd).new nx'
    exact ⟨rfl, h _ x d l (K.then k fun a ha => .inr (by rw [List.mem_singleton] at ha; rw [ha]; exact nd)) nx nd (K.fresh (S := []) nl) row e⟩
end
section
variable {G : Md} {A : Around} {H F : AH} {Q : AV → AH → Prop}
theorem tg_some (s : Str) (v : Vv) : tg (some s, v) = s := rfl
theorem sp_jnames (g : GO G) (ar : Ar 12 A) {u : Bool} {la : Addr} {ps : List Pr} {as : List AV} (ok : OkA ps) (hla : F la = some (.list as)) (r : RTs RV F ps as) (l : Le F H)
    (h0 : anyN u ps = false → ∀ H', Keep [] H H' → Q .none H') (h1 : anyN u ps = true → ∀ H' l, Keep [] H H' → H' l = some (.list ((exA u ps 0).map .str)) → Q (.ref l) H') : CC G A 557 [.ref la, .bool u] Q H := by
  refine go2 g ar (fx557 g) rfl ?_
  intro A env ar eo hsc
  have plen := ok.len
  have alen := r.1
  have hl := l _ _ hla
  tm_at "w"
  refine for_list (xs := as) (fun j σ' => Keep [] H σ'.H ∧ σ'.m "args" = some (.ref la) ∧ σ'.m "recurse" = some (.bool u) ∧ σ'.m "some" = some (.bool (anyN u (ps.take j)))) (by exact hl) ⟨.refl, by tm_at "look", by tm_at "look", by tm_at "lv"; rfl⟩ (fun j σ' h => h.1.le _ _ hl) ?_ ?_
  · rintro j Po hPo v ⟨H2, m⟩ hj hv ⟨k2, m1, m2, m3⟩
    obtain ⟨p, ep⟩ := list_at_len alen hv
    obtain ⟨t, b, rfl, ht, hb⟩ := r.2 j p _ ep hv
    have l2 : Le F H2 := le_pure l k2
    have ht2 := l2 _ _ ht
    have pok := ok.val p (List.mem_of_getElem? ep)
    obtain ⟨p1, p2⟩ := p
    dsimp only at ht ht2 hb pok
    have snoc := anyN_snoc u (ps.take j) (p1, p2)
    rw [← take_snoc ep] at snoc
    tm_at "w"
    refine ite_b (fun q => ?_) (fun q => ?_)
    · tm_at "w"
      refine ⟨k2, by tm_at "look", by tm_at "look", ?_⟩
      tm_at "lv"
      rw [snoc, q]; rfl
    · have fin : ∀ (H3 : AH) (c : Bool), Keep [] H2 H3 → c = (decide (tg (p1, p2) ≠ S0) || hn u p2) → ∀ m' : Str → Option AV, m' "args" = some (.ref la) → m' "recurse" = some (.bool u) → 
            Keep [] H H3 ∧ put m' "some" (.bool c) "args" = some (.ref la) ∧ put m' "some" (.bool c) "recurse" = some (.bool u) ∧ put m' "some" (.bool c) "some" = some (.bool (anyN u (ps.take (j + 1)))) := fun H3 c k3 ec m' q1 q2 =>
          ⟨k2.trans k3, by tm_at "look", by tm_at "look", by tm_at "lv"; rw [snoc, q, ec]; rfl⟩
      cases p1 with
      | none =>
        dsimp only [ostr]
        tm_at "w"
        refine (sp_has g u 3 p2 pok (ar.le (by decide)) hb l2 fun H3 k3 => ?_).cv
        tm_at "w"
        exact fin H3 _ k3 (by simp [tg]) _ (by tm_at "look") (by tm_at "look")
      | some s =>
        dsimp only [ostr]
        tm_at "w"
        refine ite_dec (fun q1 => ?_) (fun q1 => ?_)
        · tm_at "w"
          exact fin H2 _ .refl (by rw [tg_some, decide_eq_true q1]; rfl) _ (by tm_at "look") (by tm_at "look")
        · tm_at "w"
          refine (sp_has g u 3 p2 pok (ar.le (by decide)) hb l2 fun H3 k3 => ?_).cv
          tm_at "w"
          have : s = "" := by simpa using q1
          exact fin H3 _ k3 (by simp [tg_some, this]) _ (by tm_at "look") (by tm_at "look")
  · rintro ⟨H2, m⟩ ⟨k2, m1, m2, m3⟩
    rw [← alen, List.take_of_length_le (Nat.le_refl _)] at m3
    tm_at "w"
    refine ite_b (fun q => ?_) (fun q => ?_)
    · have q' : anyN u ps = false := by simpa using q
      tm_at "w"
      exact h0 q' _ k2
    · have q' : anyN u ps = true := by simpa using q
      tm_at "w"
      refine (sp_NameRow g (ar.le (by decide)) fun H3 rr rd rl k3 nr nd nl row e3 => ?_).cv
      have k03 := k2.trans k3
      have nd0 := k2.fresh (S := []) nd
      have nl0 := k2.fresh (S := []) nl
      have Fd : F rd = none := by
        cases z : F rd with
        | none => rfl
        | some o => rw [l _ _ z] at nd0; cases nd0
      have Fl : F rl = none := by
        cases z : F rl with
        | none => rfl
        | some o => rw [l _ _ z] at nl0; cases nl0
      obtain ⟨nrl, ndl⟩ := row.nel e3
      have hl3 := k03.le _ _ hl
      tm_at "w"
      refine for_list (xs := as) (fun j σ' => Keep [rd, rl] H3 σ'.H ∧ NRow σ'.H rr rd rl (cntA u (ps.take j) : Nat) (0 : Nat) ∧ σ'.H rl = some (.list ((exA u (ps.take j) 0).map .str)) ∧ σ'.m "recurse" = some (.bool u) ∧ σ'.m "row" = some (.ref rr)) (by exact hl3) ⟨.refl, by exact row, by exact e3, by tm_at "look", by tm_at "look"⟩ (fun j σ' h => h.1.get hl3 (by simp; exact ⟨keep_ne hl nd0, keep_ne hl nl0⟩)) ?_ ?_
      · rintro j Po hPo v ⟨H4, m⟩ hj hv ⟨k4, row4, l4, m1, m2⟩
        obtain ⟨p, ep⟩ := list_at_len alen hv
        obtain ⟨t, b, rfl, ht, hb⟩ := r.2 j p _ ep hv
        have lF3 : Le F H3 := le_pure l k03
        have l2 : Le F H4 := le_keep lF3 k4 (fun a q => by simp at q; rcases q with rfl | rfl <;> assumption)
        have ht2 := l2 _ _ ht
        have pm := List.mem_of_getElem? ep
        have pok := ok.val p pm
        have ptg := ok.tag p pm
        have cj : cntA u (ps.take j) ≤ 243 := by
          have := cntA_le (u := u) (ps := ps.take j) fun q hq => ok.val q (List.mem_of_mem_take hq)
          have : (ps.take j).length ≤ 3 := by rw [List.length_take]; lia
          have : (ps.take j).length * pw 3 ≤ 3 * pw 3 := Nat.mul_le_mul_right _ this
          have : pw 3 = 81 := rfl
          lia
        have xl := exA_len (u := u) (ps := ps.take j) (fun q hq => ok.val q (List.mem_of_mem_take hq)) 0
        have fin : ∀ H5, Keep [rd, rl] H4 H5 → NRow H5 rr rd rl (cntA u (ps.take j) + cnt u p.2 : Nat) (0 : Nat) → H5 rl = some (.list ((exA u (ps.take j) 0 ++ ex u p.2 S0 (tg p) (cntA u (ps.take j)) 0).map .str)) → ∀ m' : Str → Option AV, m' "recurse" = some (.bool u) → m' "row" = some (.ref rr) →
            Keep [rd, rl] H3 H5 ∧ NRow H5 rr rd rl (cntA u (ps.take (j + 1)) : Nat) (0 : Nat) ∧ H5 rl = some (.list ((exA u (ps.take (j + 1)) 0).map .str)) ∧ m' "recurse" = some (.bool u) ∧ m' "row" = some (.ref rr) := fun H5 k5 row5 l5 m' q1 q2 => by
          refine ⟨k4.trans k5, ?_, ?_, q1, q2⟩
          · rw [take_snoc ep, cntA_snoc]; exact row5
          · rw [take_snoc ep, exA_snoc, Nat.zero_add]; exact l5
        obtain ⟨p1, p2⟩ := p
        dsimp only at ht ht2 hb pok
        cases p1 with
        | none =>
          dsimp only [ostr] at ht2
          tm_at "w"
          refine (sp_ex g u 3 p2 pok (b := "") (t := "") (ar.le (by decide)) hb l2 Fd Fl row4 l4 (by decide +kernel) (by decide +kernel) (by have : pw 3 = 81 := rfl; lia) (by rw [xl]; have : pw 3 = 81 := rfl; lia) fun H5 k5 row5 l5 => ?_).cv
          tm_at "w"
          exact fin H5 k5 row5 l5 _ (by tm_at "look") (by tm_at "look")
        | some s =>
          dsimp only [ostr] at ht2
          tm_at "w"
          refine (sp_ex g u 3 p2 pok (b := "") (t := s) (ar.le (by decide)) hb l2 Fd Fl row4 l4 (by decide +kernel) (by exact ptg) (by have : pw 3 = 81 := rfl; lia) (by rw [xl]; have : pw 3 = 81 := rfl; lia) fun H5 k5 row5 l5 => ?_).cv
          tm_at "w"
          exact fin H5 k5 row5 l5 _ (by tm_at "look") (by tm_at "look")
      · rintro ⟨H4, m⟩ ⟨k4, row4, l4, m1, m2⟩
        rw [← alen, List.take_of_length_le (Nat.le_refl _)] at l4
        tm_at "w"
        refine row_names g row4 ?_
        tm_at "w"
        exact h1 q' _ rl (k03.then k4 fun a ha => .inr (by simp at ha; rcases ha with rfl | rfl <;> assumption)) l4
end
section
variable {G : Md} {A : Around} {H F : AH} {Q : AV → AH → Prop}
theorem le_cut {F H : AH} {S : List Addr} (l : Le F H) (n : ∀ a ∈ S, F a = none) : Le F (cut H S) := fun a o e => cut_at (l a o e) fun q => by rw [n a q] at e; cases e
theorem le_none {F H : AH} {a : Addr} (l : Le F H) (n : H a = none) : F a = none := by
  cases z : F a with
  | none => rfl
  | some o => rw [l _ _ z] at n; cases n
theorem rvs_ne {F : AH} {xs : List Vv} {as : List AV} (h : RVs F xs as) : xs = [] ↔ as = [] := by
  rw [← List.length_eq_zero_iff, ← List.length_eq_zero_iff, h.1]
theorem sp_combine (g : GO G) (ar : Ar 13 A) {u w : Bool} {la : Addr} {ps : List Pr} {as : List AV} (ok : OkA ps) (hla : F la = some (.list as)) (r : RTs RV F ps as) (l : Le F H)
    (h : ∀ H' a, Keep [] H H' → RV H' (resV ps u w) a → Q a H') : CC G A 576 [.ref la, .bool u, .bool w] Q H := by
  refine go3 g ar (fx576 g) rfl ?_
  intro A env ar eo hsc
  have plen := ok.len
  have alen := r.1
  have hl := l _ _ hla
  have pw3 : pw 3 = 81 := rfl
  have gok := glA_ok (u := u) ok
  tm_at "w"
  rename_i pl npl
  have Fpl := le_none l npl
  refine for_list (xs := as) (fun j σ' => Keep [] H σ'.H ∧ σ'.m "args" = some (.ref la) ∧ σ'.m "recurse" = some (.bool u) ∧ σ'.m "use_names" = some (.bool w) ∧ σ'.m "parts" = some (.ref pl) ∧ ∃ ws, σ'.H pl = some (.list ws) ∧ RVs F (glA u (ps.take j)) ws) ((upd_ne _ _ (keep_ne hl npl)).trans hl) ⟨Keep.refl.new npl, by tm_at "look", by tm_at "look", by tm_at "look", by tm_at "look", [], upd_same _ _ _, by simp [glA]; exact .nil⟩ (fun j σ' h => h.1.le _ _ hl) ?_ ?_
  · rintro j Po hPo v ⟨H2, m⟩ hj hv ⟨k2, m1, m2, m3, m4, ws, e2, rw2⟩
    obtain ⟨p, ep⟩ := list_at_len alen hv
    obtain ⟨t, b, rfl, ht, hb⟩ := r.2 j p _ ep hv
    have l2 : Le F H2 := le_pure l k2
    have ht2 := l2 _ _ ht
    have pok := ok.val p (List.mem_of_getElem? ep)
    have wl : ws.length ≤ 243 := by
      rw [← rw2.1]
      have := glA_len (u := u) (ps := ps.take j) fun q hq => ok.val q (List.mem_of_mem_take hq)
      have : (ps.take j).length ≤ 3 := by rw [List.length_take]; lia
      have : (ps.take j).length * pw 3 ≤ 3 * pw 3 := Nat.mul_le_mul_right _ this
      lia
    tm_at "w"
    refine (sp_gather g u 3 p.2 pok (ar.le (by decide)) hb l2 Fpl e2 (by lia) fun H3 ws' k3 e3 r3 => ?_).cv
    tm_at "w"
    refine ⟨k2.then k3 fun a ha => .inr (by rw [List.mem_singleton] at ha; rw [ha]; exact npl), by tm_at "look", by tm_at "look", by tm_at "look", by tm_at "look", _, e3, ?_⟩
    rw [take_snoc ep, glA_snoc]
    exact rw2.app r3
  · rintro ⟨H2, m⟩ ⟨k2, m1, m2, m3, m4, ws, e2, r2⟩
    rw [← alen, List.take_of_length_le (Nat.le_refl _)] at r2
    have wl : ws.length ≤ 324 := by
      rw [← r2.1]
      have := glA_len (u := u) (ps := ps) ok.val
      have : ps.length * pw 3 ≤ 4 * pw 3 := Nat.mul_le_mul_right _ plen
      lia
    tm_at "w"
    refine cv_len e2 (by lia) ?_
    tm_at "w"
    refine ite_dec (fun q => ?_) (fun q => ?_)
    · have w0 : ws = [] := List.length_eq_zero_iff.mp (by lia)
      have g0 := (rvs_ne r2).mpr w0
      tm_at "w"
      refine (sp_Null g (ar.le (by decide)) fun H3 x d k3 nx nd ex ed => ?_).cv
      tm_at "w"
      refine h _ _ (k2.trans k3) ?_
      rw [resV, if_pos g0]
      exact .null ⟨d, ex, ed⟩
    · have w0 : ws ≠ [] := fun z => q (by rw [z]; rfl)
      have g0 : glA u ps ≠ [] := fun z => w0 ((rvs_ne r2).mp z)
      tm_at "w"
      refine comp_map [] [] (fun _ => True) (fun j v _ => ∀ p, (glA u ps)[j]? = some p → v = .str (vk p).s) (.list (by exact e2)) hsc rfl (fun _ h => nomatch h) .nil (fun H' k _ => k.le _ _ e2) trivial (fun _ _ _ _ _ => trivial) (fun _ _ _ _ _ h => h) (by lia) ?_ ?_
      · intro D j v cenv σ' nD aD eo hsc hi hp k3 _ hc Po hPo
        obtain ⟨p, ep⟩ := list_at_len r2.1 hp
        obtain ⟨k, xs, nm, rfl, pok⟩ := gok p (List.mem_of_getElem? ep)
        have rp := r2.2 j _ _ ep hp
        cases rp with
        | vec hv e rn hlx hx =>
        have l3 : Le F σ'.H := le_pure (le_pure l k2) k3
        tm_at "w"
        exact ⟨.refl, trivial, fun p ep' => by rw [ep] at ep'; cases ep'; rfl, fun _ h => nomatch h⟩
      · intro D H3 ys nD k3 _ hD hn hy
        have hys : ys = ((glA u ps).map vk).map fun k => .str k.s := by
          rw [List.map_map]
          exact eq_map_of (hn.trans r2.1.symm) fun i u p e1 e2 => hy i u e1 p e2
        rw [hys] at hD
        tm_at "w"
        refine (sp_commonkind g (ar.le (by decide)) hD (by simpa using g0) fun H4 k4 => ?_).cv
        have kk : ∀ p ∈ glA u ps, (vk p).o ≤ (hi ((glA u ps).map vk)).o := fun p hp => hi_ge (List.mem_map_of_mem hp)
        have k04 : Keep [] H H4 := (k2.trans k3).trans k4
        have e4 := (k3.trans k4).le _ _ e2
        generalize hK : hi ((glA u ps).map vk) = K at *
        tm_at "w"
        rename_i D2 nD2
        have nD20 := k04.fresh (S := []) nD2
        have FD2 := le_none l nD20
        have pD2 := keep_ne e4 nD2
        refine for_list (xs := ws) (fun j σ' => Keep [] H σ'.H ∧ σ'.m "args" = some (.ref la) ∧ σ'.m "recurse" = some (.bool u) ∧ σ'.m "use_names" = some (.bool w) ∧ σ'.m "items" = some (.ref D2) ∧ σ'.m "kind" = some (.str K.s) ∧ σ'.H pl = some (.list ws) ∧ ∃ avs, σ'.H D2 = some (.list avs) ∧ RVs (cut σ'.H [D2]) (itemsA K ((glA u ps).take j)) avs) ((upd_ne _ _ pD2).trans e4) ⟨k04.new nD2, by tm_at "look", by tm_at "look", by tm_at "look", by tm_at "look", by tm_at "look", (upd_ne _ _ pD2).trans e4, [], upd_same _ _ _, by simp [itemsA]; exact .nil⟩ (fun j σ' h => h.2.2.2.2.2.2.1) ?_ ?_
        · rintro j Po hPo v ⟨H5, m⟩ hj hv ⟨k5, m1, m2, m3, m4, m5, e5, avs, eD, rD⟩
          obtain ⟨p, ep⟩ := list_at_len r2.1 hv
          have pm := List.mem_of_getElem? ep
          have pk := kk p pm
          obtain ⟨k, xs, nm, rfl, pok⟩ := gok p pm
          have l5 : Le F (cut H5 [D2]) := le_cut (le_pure l k5) fun a ha => by rw [List.mem_singleton] at ha; rw [ha]; exact FD2
          have rp := (r2.2 j _ _ ep hv).mono l5
          have rp' := rp
          have al : avs.length ≤ 972 := by
            rw [← rD.1]
            have := itemsA_le (K := K) (parts := (glA u ps).take j) fun p hp => by
              obtain ⟨k, xs, nm, rfl, pok⟩ := gok p (List.mem_of_mem_take hp)
              exact pok.len
            have : ((glA u ps).take j).length ≤ 324 := by rw [List.length_take, r2.1]; lia
            lia
          have xl := pok.len
          cases rp' with
          | vec hv' e' rn' hlx' hx' =>
          tm_at "w"
          refine ⟨⟨_, eD⟩, ?_⟩
          tm_at "w"
          refine (sp_partitems g (ar.le (by decide)) (Alive.nil.cons eD) rp pk (fun hk => pok.it hk) pok.len pok.nm fun H6 i' avs' k6 e6 n6 r6 => ?_).cv
          have eD6 := k6.le _ _ eD
          refine ⟨i', avs, avs', rfl, eD6, e6, by rw [← r6.1, List.length_map]; lia, ?_⟩
          tm_at "w"
          refine ⟨(k5.trans k6).own nD20, by tm_at "look", by tm_at "look", by tm_at "look", by tm_at "look", by tm_at "look", (upd_ne _ _ pD2).trans (k6.le _ _ e5), _, upd_same _ _ _, ?_⟩
          show RVs (cut (upd H6 D2 _) [D2]) _ _
          rw [cut_upd_in (List.mem_singleton.mpr rfl), take_snoc ep, itemsA_snoc]
          exact (rD.mono (cut_keep k6.pure)).app r6
        · rintro ⟨H5, m⟩ ⟨k5, m1, m2, m3, m4, m5, e5, avs, eD, rD⟩
          rw [← r2.1, List.take_of_length_le (Nat.le_refl _)] at rD
          tm_at "w"
          refine (sp_Vector g (ar.le (by decide)) fun H6 y d k6 ny nd nv => ?_).cv
          have k06 := k5.trans k6
          have l6 : Le F H6 := le_pure l k06
          have nd0 := k5.fresh (S := []) nd
          tm_at "w"
          refine ite_b (fun q => ?_) (fun q => ?_)
          · subst q
            tm_at "w"
            refine (sp_jnames g (u := u) (ar.le (by decide)) ok hla r l6 (fun an H7 k7 => ?_) (fun an H7 ln k7 e7 => ?_)).cv
            · tm_at "w"
              refine (sp_named0 g (ar.le (by decide)) ?_).cv
              tm_at "w"
              refine h _ _ (k06.trans k7) ?_
              rw [resV, if_neg g0, hK, an]
              have kk7 := k6.trans k7
              have rr := (rD.mono (cut_le _ _)).mono kk7.le
              exact .vec ((NVec.vec nv).mono k7.le) (kk7.le _ _ eD) .none rr.1 rr.2
            · tm_at "w"
              refine (sp_named1 g (ar.le (by decide)) (d := d) ⟨k7.le _ _ nv.x, k7.le _ _ nv.d⟩ e7 ?_ fun H8 a z l' k8 v8 na ea vz el => ?_).cv
              · rw [List.length_map, exA_len ok.val]
                have := cntA_le (u := u) ok.val
                have : ps.length * pw 3 ≤ 4 * pw 3 := Nat.mul_le_mul_right _ plen
                lia
              · tm_at "w"
                have k08 : Keep [] H H8 := (k06.trans k7).then k8 fun b hb => .inr (by rw [List.mem_singleton] at hb; rw [hb]; exact nd0)
                have k58 : Keep [] H5 H8 := (k6.trans k7).then k8 fun b hb => .inr (by rw [List.mem_singleton] at hb; rw [hb]; exact nd)
                refine h _ _ k08 ?_
                rw [resV, if_neg g0, hK, an]
                have rr := (rD.mono (cut_le _ _)).mono k58.le
                exact .vec v8.vec (k58.le _ _ eD) (.some ea vz (by rw [el, List.map_map]; rfl)) rr.1 rr.2
          · subst q
            tm_at "w"
            refine h _ _ k06 ?_
            rw [resV, if_neg g0, hK]
            have rr := (rD.mono (cut_le _ _)).mono k6.le
            exact .vec (NVec.vec nv) (k6.le _ _ eD) .none rr.1 rr.2
end
section
variable {G : Md} {A : Around} {H F : AH} {Q : AV → AH → Prop}
theorem RTs.mono {Rel : AH → Vv → AV → Prop} (hm : ∀ F F' v a, Le F F' → Rel F v a → Rel F' v a) {F F' : AH} (l : Le F F') {ps : List (Option Str × Vv)} {as : List AV} (h : RTs Rel F ps as) : RTs Rel F' ps as :=
  ⟨h.1, fun j p a e1 e2 => let ⟨t, b, e, ht, hb⟩ := h.2 j p a e1 e2; ⟨t, b, e, l _ _ ht, hm _ _ _ _ l hb⟩⟩
theorem RTs.nil {Rel : AH → Vv → AV → Prop} {F : AH} : RTs Rel F [] [] := ⟨rfl, fun j p a e => by simp at e⟩
theorem snoc_at {α : Type} {xs : List α} {x y : α} {j : Nat} (e : (xs ++ [x])[j]? = some y) : xs[j]? = some y ∨ (j = xs.length ∧ y = x) := by
  by_cases q : j < xs.length
  · rw [List.getElem?_append_left q] at e; exact .inl e
  · right
    have q2 : j = xs.length := by
      rcases Nat.lt_or_ge j (xs ++ [x]).length with z | z
      · rw [List.length_append] at z; simp at z; lia
      · rw [List.getElem?_eq_none z] at e; cases e
    subst q2
    simp at e
    exact ⟨rfl, e.symm⟩
theorem RTs.snoc {Rel : AH → Vv → AV → Prop} {F : AH} {ps : List (Option Str × Vv)} {as : List AV} {o : Option Str} {v : Vv} {t : Addr} {b : AV} (h : RTs Rel F ps as) (ht : F t = some (.tup [ostr o, b])) (hb : Rel F v b) : RTs Rel F (ps ++ [(o, v)]) (as ++ [.ref t]) := by
  refine ⟨by simp [h.1], fun j p a e1 e2 => ?_⟩
  rcases snoc_at e1 with e1 | ⟨j1, rfl⟩
  · rcases snoc_at e2 with e2 | ⟨j2, rfl⟩
    · exact h.2 j p a e1 e2
    · rw [j2, ← h.1, List.getElem?_eq_none (Nat.le_refl _)] at e1; cases e1
  · rcases snoc_at e2 with e2 | ⟨j2, rfl⟩
    · rw [j1, h.1, List.getElem?_eq_none (Nat.le_refl _)] at e2; cases e2
    · exact ⟨t, b, rfl, ht, hb⟩
theorem sp_unlisted0 (g : GO G) (ar : Ar 15 A) {w : Bool} {v : Vv} {a : AV} (ok : OkP 3 v) (hv : ∀ xs nm, v ≠ .vec .ls xs nm) (r : RV F v a) (l : Le F H) (h : ∀ H', Keep [] H H' → Q a H') : CC G A 583 [a, .bool w] Q H := by
  refine go2 g ar (fx583 g) rfl ?_
  intro A env ar eo hsc
  rcases ok.cases with rfl | ⟨k, xs, nm, rfl⟩
  · cases r with
    | null hn =>
    tm_at "w"
    refine (sp_opens g (ar.le (by decide)) (.null hn) l (.inl rfl) fun H1 k1 => ?_).cv
    tm_at "w"
    exact h _ k1
  · cases r with
    | vec hv' e rn hlx hx =>
    tm_at "w"
    refine (sp_opens g (ar.le (by decide)) (.vec hv') l (kok k) fun H1 k1 => ?_).cv
    have : k ≠ .ls := fun q => hv _ _ (by rw [q])
    rw [klist, decide_eq_false this]
    tm_at "w"
    exact h _ k1
theorem sp_unlisted1 (g : GO G) (ar : Ar 15 A) {w : Bool} {xs : List Vv} {nm : Option (List (Option Str))} {a : AV} (ok : OkP 3 (.vec .ls xs nm)) (r : RV F (.vec .ls xs nm) a) (l : Le F H) (h : ∀ H' a', Keep [] H H' → RV H' (resV (headsV xs nm) true w) a' → Q a' H') : CC G A 583 [a, .bool w] Q H := by
  refine go2 g ar (fx583 g) rfl ?_
  intro A env ar eo hsc
  obtain ⟨m', hm, hok⟩ := ok.ls
  cases hm
  have hz := ok.len
  have hnm := ok.nm
  have hh := headsV_ok hnm hz hok (by decide)
  have hlen := headsV_len hnm
  cases r with
  | @vec _ _ _ x i av avs hv e rn hlx hx =>
  tm_at "w"
  refine (sp_opens g (ar.le (by decide)) (.vec hv) l (kok .ls) fun H1 k1 => ?_).cv
  rw [klist, decide_eq_true rfl]
  have l1 : Le F H1 := le_pure l k1
  tm_at "w"
  cases nm with
  | none =>
    cases rn
    refine (sp_names0 g (ar.le (by decide)) (kok .ls) hv l1 ?_).cv
    tm_at "w"
    rename_i al nal
    have nal0 := k1.fresh (S := []) nal
    have Fal := le_none l nal0
    have l2 := le_pure l1 (Keep.refl.new (o := .list []) nal)
    refine cv_len (l2 _ _ e) (by lia) ?_
    tm_at "w"
    refine cv_range fun rg nrg => ?_
    have k3 : Keep [] H (upd (upd H1 al (.list [])) rg (.rng avs.length)) := (k1.new nal).new nrg
    have ral := keep_ne (upd_same _ _ _) nrg
    refine for_rng (fun j σ' => Keep [] H σ'.H ∧ σ'.m "v" = some (.ref x) ∧ σ'.m "use_names" = some (.bool w) ∧ σ'.m "names" = some .none ∧ σ'.m "args" = some (.ref al) ∧ ∃ ts, σ'.H al = some (.list ts) ∧ RTs RV (cut σ'.H [al]) ((headsV xs none).take j) ts) (upd_same _ _ _) (by lia) ⟨k3, by tm_at "look", by tm_at "look", by tm_at "look", by tm_at "look", [], (upd_ne _ _ ral).trans (upd_same _ _ _), .nil⟩ ?_ ?_
    · rintro j Po hPo ⟨H4, m⟩ hj ⟨k4, m1, m2, m3, m4, ts, e4, r4⟩
      have ea : avs[j]? = some avs[j] := List.getElem?_eq_getElem hj
      obtain ⟨x', ex⟩ := list_at_len hlx ea
      have l4 : Le F H4 := le_pure l k4
      tm_at "w"
      refine ⟨⟨_, e4⟩, ?_⟩
      tm_at "w"
      refine sub_listJ (x := avs[j]) (l4 _ _ e) (by lia) (by first | exact ea | exact get_map ea | simp [ea]) ?_
      tm_at "w"
      rename_i tn ntn
      have alt := keep_ne e4 ntn
      have hhl := hh.len
      have tsl : ts.length ≤ 4 := by rw [← r4.1, List.length_take]; lia
      refine ⟨ts, (upd_ne _ _ alt).trans e4, by rw [sizeLine_eq]; lia, ?_⟩
      tm_at "w"
      refine ⟨(k4.new ntn).own nal0, by tm_at "look", by tm_at "look", by tm_at "look", by tm_at "look", _, upd_same _ _ _, ?_⟩
      rw [cut_upd_in (List.mem_singleton.mpr rfl), take_snoc (headsV_at0 ex)]
      have c1 : Le (cut H4 [al]) (cut (upd H4 tn (.tup [AV.none, avs[j]])) [al]) := cut_new ntn
      refine (r4.mono (fun _ _ _ _ l r => r.mono l) c1).snoc (o := none) (cut_at (upd_same _ _ _) (by simp; exact Ne.symm alt)) ((hx j _ _ ex ea).mono ?_)
      exact le_cut (l4.trans (Keep.refl.new ntn).le) fun b hb => by rw [List.mem_singleton] at hb; rw [hb]; exact Fal
    · rintro ⟨H4, m⟩ ⟨k4, m1, m2, m3, m4, ts, e4, r4⟩
      rw [List.take_of_length_le (by rw [hlen]; lia)] at r4
      tm_at "w"
      refine (sp_combine g (ar.le (by decide)) hh e4 (r4.mono (fun _ _ _ _ l r => r.mono l) (cut_le _ _)) (Le.refl _) fun H5 a' k5 r5 => ?_).cv
      tm_at "w"
      exact h _ _ (k4.trans k5) r5
  | some nm =>
    have nz : nm.length ≤ sizeLine := by rw [hnm.1, sizeLine_eq]; lia
    have rn' := rn
    cases rn
    refine (sp_names1 g (ar.le (by decide)) (kok .ls) hv rn' l1 nz fun H2 ln k2 nln eln => ?_).cv
    tm_at "w"
    rename_i al nal
    have k02 := k1.trans k2
    have nal0 := k02.fresh (S := []) nal
    have Fal := le_none l nal0
    have l2 := le_pure (le_pure l1 k2) (Keep.refl.new (o := .list []) nal)
    refine cv_len (l2 _ _ e) (by lia) ?_
    tm_at "w"
    refine cv_range fun rg nrg => ?_
    have k3 : Keep [] H (upd (upd H2 al (.list [])) rg (.rng avs.length)) := (k02.new nal).new nrg
    have ral := keep_ne (upd_same _ _ _) nrg
    have lnal := keep_ne eln nal
    have eln3 : upd (upd H2 al (.list [])) rg (.rng avs.length) ln = some (.list (nm.map ostr)) := (upd_ne _ _ (keep_ne ((upd_ne _ _ lnal).trans eln) nrg)).trans ((upd_ne _ _ lnal).trans eln)
    refine for_rng (fun j σ' => Keep [] H σ'.H ∧ σ'.m "v" = some (.ref x) ∧ σ'.m "use_names" = some (.bool w) ∧ σ'.m "names" = some (.ref ln) ∧ σ'.m "args" = some (.ref al) ∧ σ'.H ln = some (.list (nm.map ostr)) ∧ ∃ ts, σ'.H al = some (.list ts) ∧ RTs RV (cut σ'.H [al]) ((headsV xs (some nm)).take j) ts) (upd_same _ _ _) (by lia) ⟨k3, by tm_at "look", by tm_at "look", by tm_at "look", by tm_at "look", eln3, [], (upd_ne _ _ ral).trans (upd_same _ _ _), .nil⟩ ?_ ?_
    · rintro j Po hPo ⟨H4, m⟩ hj ⟨k4, m1, m2, m3, m4, eln4, ts, e4, r4⟩
      have ea : avs[j]? = some avs[j] := List.getElem?_eq_getElem hj
      obtain ⟨x', ex⟩ := list_at_len hlx ea
      have eo : nm[j]? = some (nm[j]'(by rw [hnm.1]; lia)) := List.getElem?_eq_getElem _
      generalize nm[j]'(by rw [hnm.1]; lia) = o at eo
      have l4 : Le F H4 := le_pure l k4
      have e5 := l4 _ _ e
      tm_at "w"
      refine sub_listJ (x := ostr o) eln4 (by lia) (by first | exact eo | exact get_map eo | simp [eo]) ?_
      tm_at "w"
      refine ⟨⟨_, e4⟩, ?_⟩
      tm_at "w"
      refine sub_listJ (x := avs[j]) e5 (by lia) (by first | exact ea | exact get_map ea | simp [ea]) ?_
      tm_at "w"
      rename_i tn ntn
      have alt := keep_ne e4 ntn
      have hhl := hh.len
      have tsl : ts.length ≤ 4 := by rw [← r4.1, List.length_take]; lia
      refine ⟨ts, (upd_ne _ _ alt).trans e4, by rw [sizeLine_eq]; lia, ?_⟩
      tm_at "w"
      refine ⟨(k4.new ntn).own nal0, by tm_at "look", by tm_at "look", by tm_at "look", by tm_at "look", ?_, _, upd_same _ _ _, ?_⟩
      · refine (upd_ne _ _ (fun q => ?_)).trans ((upd_ne _ _ (keep_ne eln4 ntn)).trans eln4)
        exact lnal q
      rw [cut_upd_in (List.mem_singleton.mpr rfl), take_snoc (headsV_at1 ex eo)]
      have c1 : Le (cut H4 [al]) (cut (upd H4 tn (.tup [ostr o, avs[j]])) [al]) := cut_new ntn
      refine (r4.mono (fun _ _ _ _ l r => r.mono l) c1).snoc (o := o) (cut_at (upd_same _ _ _) (by simp; exact Ne.symm alt)) ((hx j _ _ ex ea).mono ?_)
      exact le_cut (l4.trans (Keep.refl.new ntn).le) fun b hb => by rw [List.mem_singleton] at hb; rw [hb]; exact Fal
    · rintro ⟨H4, m⟩ ⟨k4, m1, m2, m3, m4, eln4, ts, e4, r4⟩
      rw [List.take_of_length_le (by rw [hlen]; lia)] at r4
      tm_at "w"
      refine (sp_combine g (ar.le (by decide)) hh e4 (r4.mono (fun _ _ _ _ l r => r.mono l) (cut_le _ _)) (Le.refl _) fun H5 a' k5 r5 => ?_).cv
      tm_at "w"
      exact h _ _ (k4.trans k5) r5
end
section
variable {G : Md} {A : Around} {H F : AH} {Q : AV → AH → Prop}
theorem nil_ints {H : AH} {b : Addr} (h : H b = some (.list [])) : H b = some (.list (([] : List Int).map .int)) := h
theorem sp_draw (g : GO G) (ar : Ar 3 A) {l : Addr} {is : List Int} {most : Int} (hm : 0 < most) (hl : H l = some (.list (is.map .int))) (hz : is.length ≤ 100)
    (h : ∀ H' k (is' : List Int), Keep [l] H H' → H' l = some (.list (is'.map .int)) → is'.length ≤ 100 → 0 ≤ k → k < most → Q (.int k) H') : CC G A 597 [.ref l, .int most] Q H := by
  refine go2 g ar (fx597 g) rfl ?_
  intro A env ar eo hsc
  tm_at "w"
  rename_i aN fN
  have la := keep_ne hl fN
  have hl1 := (upd_ne H (.list []) la).trans hl
  refine c_neL_ints hl1 (nil_ints (upd_same _ _ _)) (by have := ar.un; have := cLine_is; lia) ?_
  refine ⟨_, rfl, ite_b (fun q => ?_) (fun q => ?_)⟩
  · have q' : is ≠ [] := by simpa using q
    obtain ⟨is', i, rfl⟩ : ∃ is' i, is = is' ++ [i] := ⟨is.dropLast, is.getLast q', (List.dropLast_concat_getLast q').symm⟩
    rw [List.length_append] at hz
    tm_at "w"
    refine ⟨l, is'.map .int, .int i, rfl, by rw [hl1, List.map_append]; rfl, by rw [sizeLine_eq, List.length_map]; lia, ?_⟩
    tm_at "w"
    refine b_mod (by lia) ?_
    tm_at "w"
    exact h _ _ is' ((Keep.refl.new fN).pure.at (by simp)) (upd_same _ _ _) (by lia) (Int.fmod_nonneg_of_pos _ hm) (Int.fmod_lt_of_pos _ hm)
  · tm_at "w"
    exact h _ 0 is (Keep.refl.new fN) hl1 hz (by lia) hm
theorem ite_const {env : Env} {σ : St} {c : Bool} {a b : Int} {k1 k2 : Nat} {p1 p2 : Pos} {K : AV → St → Prop} {i : Decidable (c = true)} (h : K (.int (bif c then a else b)) σ) : @ite Prop (c = true) i (WE G A env (.Constant (.int a) k1 p1) K σ) (WE G A env (.Constant (.int b) k2 p2) K σ) := by
  cases c with
  | true => rw [if_pos rfl]; exact we_int h
  | false => rw [if_neg (by simp)]; exact we_int h
theorem div60 (n : Int) : Builtin.divisionGoesByPylong n 60 = false := by
  unfold Builtin.divisionGoesByPylong
  simp only [Bool.and_eq_false_iff, decide_eq_false_iff_not]
  left
  decide +kernel
theorem sp_digits (g : GO G) (ar : Ar 1 A) {s : Addr} {ns : List Int} (hs : ListAt G H s (ns.map .int)) (hn : ns.length ≤ 63)
    (h : ∀ H' l (is : List Int), Keep [] H H' → H l = none → H' l = some (.list (is.map .int)) → is.length ≤ 60 → Q (.ref l) H') : CC G A 590 [.ref s] Q H := by
  refine go1 g ar (fx590 g) rfl ?_
  intro A env ar eo hsc
  tm_at "w"
  rename_i rw nrw
  tm_at "slUp"
  tm_at "w"
  refine ⟨s, ns.map .int, 40, rfl, rfl, by decide, ?_, by rw [sizeLine_eq, List.length_map]; lia, fun sl nsl => ?_⟩
  · exact hs.imp (fun e => (upd_ne _ _ (keep_ne e nrw)).trans e) id
  have rs := keep_ne (upd_same _ _ _) nsl
  refine for_list (xs := (ns.map AV.int).take 40) (fun i σ' => Keep [] H σ'.H ∧ σ'.m "row" = some (.ref rw) ∧ σ'.H sl = some (.list ((ns.map AV.int).take 40)) ∧ ∃ is : List Int, σ'.H rw = some (.list (is.map .int)) ∧ is.length ≤ 40 * i) (upd_same _ _ _) ⟨(Keep.refl.new nrw).new nsl, by tm_at "look", upd_same _ _ _, [], (upd_ne _ _ rs).trans (upd_same _ _ _), by simp⟩ (fun i σ' h => h.2.2.1) ?_ ?_
  · rintro i Po hPo v ⟨H2, m⟩ hi hv ⟨k2, m1, e2, is, er, ez⟩
    have hi' : i < 40 := by rw [List.length_take] at hi; lia
    obtain ⟨c, rfl⟩ : ∃ c, v = .int c := by
      have := List.mem_of_mem_take (List.mem_of_getElem? hv)
      obtain ⟨c, _, rfl⟩ := List.mem_map.mp this
      exact ⟨c, rfl⟩
    tm_at "w"
    refine cv_abs ?_
    tm_at "w"
    refine b_mul (mul_small (by decide)) ?_
    tm_at "w"
    refine ite_const ?_
    generalize (bif decide (c < 0) then (1 : Int) else 0) = cc
    tm_at "w"
    refine cv_range (n := 40) fun rg nrg => ?_
    have e2' := (upd_ne H2 (.rng 40) (keep_ne e2 nrg)).trans e2
    have er' := (upd_ne H2 (.rng 40) (keep_ne er nrg)).trans er
    have srw : rw ≠ sl := rs
    tm_at "w"
    refine for_rng (fun j σ' => Keep [] H σ'.H ∧ σ'.m "row" = some (.ref rw) ∧ σ'.H sl = some (.list ((ns.map AV.int).take 40)) ∧ (∃ rest, σ'.m "rest" = some (.int rest)) ∧ ∃ is : List Int, σ'.H rw = some (.list (is.map .int)) ∧ is.length ≤ 40 * i + j) (upd_same _ _ _) (by decide) ⟨k2.new nrg, by tm_at "look", e2', ⟨_, by tm_at "look"⟩, is, er', by lia⟩ ?_ ?_
    · rintro j Po hPo ⟨H3, m⟩ hj ⟨k3, m1, e3, ⟨rest, m2⟩, is, er, ez⟩
      tm_at "w"
      have skip : Keep [] H H3 ∧ put m "lap" (.int j) "row" = some (.ref rw) ∧ H3 sl = some (.list ((ns.map AV.int).take 40)) ∧ (∃ rest, put m "lap" (.int j) "rest" = some (.int rest)) ∧ ∃ is : List Int, H3 rw = some (.list (is.map .int)) ∧ is.length ≤ 40 * i + (j + 1) := ⟨k3, by tm_at "look", e3, ⟨_, by tm_at "look"⟩, is, er, by lia⟩
      have isz : is.length ≤ 1700 := by lia
      refine ite_dec (fun q => ?yes) (fun q => ?no)
      case' no =>
        tm_at "w"
        refine ite_dec (fun q2 => ?yes2) (fun q2 => ?no2)
        case no2 =>
          tm_at "w"
          exact skip
      all_goals
        tm_at "w"
        refine ⟨⟨_, er⟩, ?_⟩
        tm_at "w"
        refine b_mod (by decide) ?_
        refine ⟨_, er, by rw [sizeLine_eq, List.length_map]; lia, ?_⟩
        tm_at "w"
        refine b_div (by decide) (div60 _) ?_
        tm_at "w"
        refine ⟨k3.own nrw, by tm_at "look", (upd_ne _ _ (Ne.symm srw)).trans e3, ⟨_, by tm_at "look"⟩, is ++ [rest.fmod 60], (upd_same _ _ _).trans (by rw [List.map_append]; rfl), by rw [List.length_append]; simp; lia⟩
    · rintro ⟨H3, m⟩ ⟨k3, m1, e3, _, is, er, ez⟩
      tm_at "w"
      exact ⟨k3, m1, e3, is, er, by lia⟩
  · rintro ⟨H2, m⟩ ⟨k2, m1, e2, is, er, ez⟩
    have nz : is.length ≤ 1600 := by
      rw [List.length_take] at ez
      have : 40 * min 40 (ns.map AV.int).length ≤ 40 * 40 := Nat.mul_le_mul_left _ (Nat.min_le_left _ _)
      lia
    tm_at "w"
    tm_at "slUp"
    tm_at "w"
    refine ⟨rw, is.map .int, 60, rfl, rfl, by decide, .inl er, by rw [sizeLine_eq, List.length_map]; lia, fun sl2 nsl2 => ?_⟩
    tm_at "w"
    refine ⟨sl2, (is.map .int).take 60, rfl, upd_same _ _ _, by rw [sizeLine_eq, List.length_take]; lia, ?_⟩
    tm_at "w"
    refine h _ sl2 ((is.take 60).reverse) ((k2.new nsl2).own (k2.fresh (S := []) nsl2)) (k2.fresh (S := []) nsl2) ((upd_same _ _ _).trans ?_) (by rw [List.length_reverse, List.length_take]; lia)
    rw [List.map_reverse, List.map_take]
end
section
variable {G : Md} {A : Around} {H F : AH} {Q : AV → AH → Prop}
/-- the row, its ints -/
noncomputable def Row (H : AH) (l : Addr) : Prop := ∃ is : List Int, H l = some (.list (is.map .int)) ∧ is.length ≤ 100
theorem Row.draw {H : AH} {l : Addr} (r : Row H l) (g : GO G) {A : Around} (ar : Ar 3 A) {most : Int} (hm : 0 < most) {Q : AV → AH → Prop} (h : ∀ H' k, Keep [l] H H' → Row H' l → 0 ≤ k → k < most → Q (.int k) H') : CC G A 597 [.ref l, .int most] Q H :=
  let ⟨is, e, z⟩ := r; sp_draw g ar hm e z fun H' k is' k1 e' z' h1 h2 => h H' k k1 ⟨is', e', z'⟩ h1 h2
theorem Row.ne {H : AH} {l a : Addr} (r : Row H l) (n : H a = none) : l ≠ a := let ⟨_, e, _⟩ := r; keep_ne e n
theorem Row.upd {H : AH} {l a : Addr} {o : AObj} (r : Row H l) (n : H a = none) : Row (upd H a o) l := let ⟨is, e, z⟩ := r; ⟨is, (upd_ne _ _ (keep_ne e n)).trans e, z⟩
theorem Row.at {H : AH} {l a : Addr} {o : AObj} (r : Row H l) (n : l ≠ a) : Row (Mine.upd H a o) l := let ⟨is, e, z⟩ := r; ⟨is, (upd_ne _ _ n).trans e, z⟩
theorem Row.keep {H H' : AH} {l : Addr} (r : Row H l) (k : Keep [] H H') : Row H' l := let ⟨is, e, z⟩ := r; ⟨is, k.le _ _ e, z⟩
theorem Row.al {H : AH} {l : Addr} (r : Row H l) : H l ≠ none := let ⟨_, e, _⟩ := r; by rw [e]; exact Option.some_ne_none _
theorem Keep.fresh1 {S : List Addr} {H H' : AH} {a : Addr} (k : Keep S H H') (n : H' a = none) (m : a ∉ S) : H a = none := by
  cases q : H a with
  | none => rfl
  | some o => rw [k.get q m] at n; cases n
theorem choose_list {α β : Type} {P : Nat → α → β → Prop} : ∀ (ys : List β), (∀ (i : Nat) u, ys[i]? = some u → ∃ v, P i v u) → ∃ vs : List α, vs.length = ys.length ∧ ∀ (j : Nat) v a, vs[j]? = some v → ys[j]? = some a → P j v a := fun ys h => by
  refine ⟨(List.range ys.length).attach.map fun ⟨i, hi⟩ => (h i _ (List.getElem?_eq_getElem (List.mem_range.mp hi))).choose, by simp, fun j v a e1 e2 => ?_⟩
  have hj : j < ys.length := by
    rcases Nat.lt_or_ge j ys.length with q | q
    · exact q
    · rw [List.getElem?_eq_none q] at e2; cases e2
  have e3 : ys[j] = a := by rw [List.getElem?_eq_getElem hj] at e2; injection e2
  rw [List.getElem?_map, List.getElem?_attach] at e1
  simp [hj] at e1
  rw [← e1, ← e3]
  exact (h j _ (List.getElem?_eq_getElem hj)).choose_spec
theorem sp_lnames (g : GO G) (ar : Ar 5 A) {l : Addr} {many : Nat} (row : Row H l) (hm : many ≤ 3) (h : ∀ H' nm a, Keep [l] H H' → Row H' l → (∀ xs : List Vv, xs.length = many → OkN xs nm) → (∀ S, Alive S H → RPN (cut H' S) nm a) → Q a H') : CC G A 602 [.ref l, .int many] Q H := by
  refine go2 g ar (fx602 g) rfl ?_
  intro A env ar eo hsc
  tm_at "w"
  refine (row.draw g (ar.le (by decide)) (by decide) fun H1 k k1 row1 h0 h3 => ?_).cv
  tm_at "w"
  refine ite_dec (fun q => ?_) (fun q => ?_)
  · tm_at "w"
    exact h _ none _ k1 row1 (fun _ _ => trivial) fun S _ => .none
  · tm_at "w"
    refine cv_range fun rg nrg => ?_
    have row2 := row1.upd (o := .rng many) nrg
    refine comp_map [("row", .ref l)] [l] (fun H' => Row H' l) (fun _ u _ => ∃ o, OkO o ∧ u = ostr o) (.rng (upd_same _ _ _) (by lia)) hsc rfl ?_ (Alive.nil.cons row2.choose_spec.1) (fun _ _ _ => trivial) row2 (fun H' D o n r => r.at (row2.ne n)) (fun _ _ _ _ _ h => h) (by lia) ?_ ?_
    · intro p hp
      rw [List.mem_singleton] at hp
      subst hp
      tm_at "look"
    · intro D j v cenv σ' nD aD eo hsc hj hv k3 r3 hc Po hPo
      cases hv
      have hrow := hc _ (List.mem_singleton.mpr rfl)
      dsimp only at hrow
      tm_at "w"
      rename_i aN fN
      have r4 := r3.upd (o := .list [.str "", .str "p", .str "q", .none]) fN
      refine (r4.draw g (ar.le (by decide)) (by decide) fun H4 k k4 row4 h0 h3 => ?_).cv
      have kk : Keep [l] σ'.H H4 := ((Keep.refl (S := [])).new fN).pure.trans k4
      have ea : H4 aN = some (.list [.str "", .str "p", .str "q", .none]) := k4.get (upd_same _ _ _) (by simp; exact Ne.symm (r3.ne fN))
      have fin : ∀ u, (∃ o, OkO o ∧ u = ostr o) → (Keep [l] σ'.H H4 ∧ Row H4 l ∧ (∃ o, OkO o ∧ u = ostr o) ∧ ∀ p ∈ [(("row" : Str), AV.ref l)], put σ'.m "lap" (.int j) p.1 = some p.2) := fun u hu => ⟨kk, row4, hu, fun p hp => by rw [List.mem_singleton] at hp; subst hp; tm_at "look"⟩
      have hk : k = 0 ∨ k = 1 ∨ k = 2 ∨ k = 3 := by lia
      tm_at "w"
      rcases hk with rfl | rfl | rfl | rfl
      · tm_at "w"
        exact fin _ ⟨some "", .inr (.inl rfl), rfl⟩
      · tm_at "w"
        exact fin _ ⟨some "p", .inr (.inr (.inl rfl)), rfl⟩
      · tm_at "w"
        exact fin _ ⟨some "q", .inr (.inr (.inr rfl)), rfl⟩
      · tm_at "w"
        exact fin _ ⟨none, .inl rfl, rfl⟩
    · intro D H3 ys nD k3 r3 hD hn hy
      tm_at "w"
      obtain ⟨os, ol, ho⟩ := choose_list (P := fun _ o u => OkO o ∧ u = ostr o) ys hy
      have hys : ys = os.map ostr := eq_map_of ol.symm fun i u o e1 e2 => (ho i o u e2 e1).2
      have nD1 := ((Keep.refl (S := [])).new nrg).fresh (S := []) nD
      refine h _ (some os) _ (k1.trans (((Keep.refl (S := [])).new nrg).pure.trans k3)) r3 (fun xs hx => ⟨?_, fun o hm => ?_⟩) fun S al => ?_
      · rw [ol, hn, hx]
      · obtain ⟨i, hi, rfl⟩ := List.getElem_of_mem hm
        exact (ho i _ _ (List.getElem?_eq_getElem hi) (List.getElem?_eq_getElem (by lia))).1
      · refine .some (cut_at (by rw [hD, hys]) fun q => ?_)
        exact al D q (k1.fresh1 nD1 (by simp; exact Ne.symm (row1.ne nD1)))
end
section
variable {G : Md} {A : Around} {H F : AH} {Q : AV → AH → Prop}
theorem Keep.al {S : List Addr} {H H' : AH} {T : List Addr} (k : Keep S H H') (al : Alive T H) (m : ∀ a ∈ S, H' a ≠ none) : Alive T H' := al.keep k m
/-- the items of a plain piece -/
noncomputable def Its (k : Kd) (S : List Addr) (il : Addr) (n : Nat) (H : AH) : Prop := ∃ xs avs, H il = some (.list avs) ∧ RVs (cut H (il :: S)) xs avs ∧ (∀ x ∈ xs, OkI k x) ∧ xs.length = n
theorem Its.keep {k : Kd} {S : List Addr} {il : Addr} {n : Nat} {H H' : AH} {l : Addr} (h : Its k S il n H) (kk : Keep [l] H H') (ls : l ∈ S) (ne : il ≠ l) : Its k S il n H' := by
  obtain ⟨xs, avs, e, r, o, z⟩ := h
  exact ⟨xs, avs, kk.get e (by simpa using ne), r.mono (cut_keep (kk.mono fun a ha => by rw [List.mem_singleton] at ha; rw [ha]; exact .tail _ ls)), o, z⟩
theorem Its.new {k : Kd} {S : List Addr} {il a : Addr} {n : Nat} {H : AH} {o : AObj} (h : Its k S il n H) (na : H a = none) : Its k S il n (upd H a o) := by
  obtain ⟨xs, avs, e, r, q, z⟩ := h
  exact ⟨xs, avs, (upd_ne _ _ (keep_ne e na)).trans e, r.mono (cut_new na), q, z⟩
theorem Its.add {k : Kd} {S : List Addr} {il : Addr} {n : Nat} {H : AH} {x : Vv} {a : AV} (h : Its k S il n H) (hx : OkI k x) (r : RV (cut H (il :: S)) x a) : ∃ avs, H il = some (.list avs) ∧ avs.length = n ∧ Its k S il (n + 1) (upd H il (.list (avs ++ [a]))) := by
  obtain ⟨xs, avs, e, rr, q, z⟩ := h
  refine ⟨avs, e, by rw [← rr.1, z], xs ++ [x], _, upd_same _ _ _, ?_, fun y hy => ?_, by simp [z]⟩
  · rw [cut_upd_in (List.mem_cons_self ..)]; exact rr.snoc r
  · rcases List.mem_append.mp hy with hy | hy
    · exact q y hy
    · rw [List.mem_singleton] at hy; rw [hy]; exact hx
theorem okp_null (n : Nat) : OkP n .null := by cases n <;> trivial
theorem kdk {kd : Int} (h0 : 0 ≤ kd) (h7 : kd < 7) : ∃ k : Kd, k ≠ .ls ∧ [AV.str "integer", .str "logical", .str "double", .str "character", .str "integer"][(kd.fmod 5).toNat]? = some (.str k.s) := by
  have : kd = 0 ∨ kd = 1 ∨ kd = 2 ∨ kd = 3 ∨ kd = 4 ∨ kd = 5 ∨ kd = 6 := by lia
  rcases this with rfl | rfl | rfl | rfl | rfl | rfl | rfl
  · exact ⟨.it, by decide, rfl⟩
  · exact ⟨.lg, by decide, rfl⟩
  · exact ⟨.db, by decide, rfl⟩
  · exact ⟨.ch, by decide, rfl⟩
  · exact ⟨.it, by decide, rfl⟩
  · exact ⟨.it, by decide, rfl⟩
  · exact ⟨.lg, by decide, rfl⟩
theorem sp_lvalue (g : GO G) : ∀ (n : Nat), n ≤ 3 → ∀ {A : Around} {H : AH} {l : Addr} {S : List Addr} {Q : AV → AH → Prop}, Ar (n + 6) A → Row H l → l ∈ S → Alive S H → (∀ H' v a, Keep [l] H H' → Row H' l → OkP n v → RP (cut H' S) v a → Q a H') → CC G A 607 [.ref l, .int (3 - n : Nat)] Q H := by
  intro n
  induction n using Nat.strongRecOn with
  | ind n ih =>
    intro hn A H l S Q ar row lS al h
    refine go2 g ar (fx607 g) rfl ?_
    intro A env ar eo hsc
    tm_at "w"
    refine (row.draw g (ar.le (by lia)) (by decide) fun H1 kd k1 row1 kd0 kd8 => ?_).cv
    tm_at "w"
    have al1 : Alive S H1 := k1.al al fun a ha => by rw [List.mem_singleton] at ha; rw [ha]; exact row1.al
    refine ite_dec (fun q => ?_) (fun q => ?_)
    · tm_at "w"
      rename_i il nil xl nxl
      have k2 : Keep [] H1 (upd (upd H1 il (.list [])) xl (.list [.str "NULL", .ref il, .none])) := (Keep.refl.new nil).new nxl
      refine h _ .null _ (k1.trans k2.pure) (row1.keep k2) (okp_null n) (.null (x := xl) (i := il) (cut_at (upd_same _ _ _) ?_) (cut_at ((upd_ne _ _ (keep_ne (upd_same _ _ _) nxl)).trans (upd_same _ _ _)) ?_))
      · exact al1.nin ((Keep.refl.new nil).fresh (S := []) nxl)
      · exact al1.nin nil
    tm_at "w"
    refine ite_dec (fun q1 => ?yes) (fun q1 => ?no)
    case' yes =>
      tm_at "w"
      refine ite_dec (fun q2 => ?yes2) (fun q2 => ?no2)
      case yes2 =>
        have n1 : 1 ≤ n := by lia
        tm_at "w"
        refine (row1.draw g (ar.le (by lia)) (by decide) fun H2 cnt k2 row2 c0 c4 => ?_).cv
        obtain ⟨m, rfl⟩ := Int.eq_ofNat_of_zero_le c0
        tm_at "w"
        refine cv_range fun rg nrg => ?_
        have al2 : Alive S H2 := k2.al al1 fun a ha => by rw [List.mem_singleton] at ha; rw [ha]; exact row2.al
        have k12 := k1.trans k2
        have row3 := row2.upd (o := .rng m) nrg
        have kr : Keep [] H2 (upd H2 rg (.rng m)) := Keep.refl.new nrg
        have al3 := al2.pure kr
        tm_at "w"
        refine comp_map [("level", .int (3 - n : Nat)), ("row", .ref l)] S (fun H' => Keep [l] (upd H2 rg (.rng m)) H' ∧ Row H' l) (fun _ u F => ∃ v, OkP (n - 1) v ∧ RP F v u) (.rng (upd_same _ _ _) (by lia)) hsc rfl ?_ al3 (fun _ _ _ => trivial) ⟨.refl, row3⟩ (fun H' D o nD r => ⟨r.1.own nD, r.2.at (row3.ne nD)⟩) (fun _ _ _ _ l ⟨v, o, r⟩ => ⟨v, o, r.mono l⟩) (by lia) ?_ ?_
        · intro p hp
          simp only [List.mem_cons, List.not_mem_nil, or_false] at hp
          rcases hp with rfl | rfl <;> tm_at "look"
        · intro D j v cenv σ' nD aD eo hsc hj hv k4 ⟨k5, r5⟩ hc Po hPo
          cases hv
          have h1 := hc _ (List.mem_cons_self ..)
          have h2 := hc _ (List.mem_cons_of_mem _ (List.mem_cons_self ..))
          dsimp only at h1 h2
          have al5 : Alive (D :: S) σ'.H := fun b hb => by
            rcases List.mem_cons.mp hb with rfl | hb
            · exact aD
            · exact k5.al al3 (fun a ha => by rw [List.mem_singleton] at ha; rw [ha]; exact r5.al) b hb
          tm_at "w"
          have elev : (((3 - n : Nat) : Int) + 1) = ((3 - (n - 1) : Nat) : Int) := by lia
          rw [elev]
          refine (ih (n - 1) (by lia) (by lia) (S := D :: S) (ar.le (by lia)) r5 (.tail _ lS) al5 fun H6 v a k6 r6 o6 p6 => ?_).cv
          refine hPo _ _ ⟨k6.mono fun a ha => by rw [List.mem_singleton] at ha; rw [ha]; exact lS, ⟨k5.trans k6, r6⟩, ⟨v, o6, p6⟩, fun p hp => ?_⟩
          simp only [List.mem_cons, List.not_mem_nil, or_false] at hp
          rcases hp with rfl | rfl <;> tm_at "look"
        · intro D H3 ys nD k4 ⟨k5, r5⟩ hD hn' hy
          obtain ⟨vs, vl, hv⟩ := choose_list (P := fun _ v u => OkP (n - 1) v ∧ RP (cut H3 (D :: S)) v u) ys hy
          have lD := row3.ne nD
          have nD2 : H2 D = none := kr.fresh (S := []) nD
          have nD0 : H D = none := k12.fresh1 nD2 (by simp; exact Ne.symm (row2.ne nD2))
          have D0 : D ∉ S := al.nin nD0
          tm_at "w"
          refine cv_len hD (by lia) ?_
          rw [hn']
          tm_at "w"
          refine (sp_lnames g (ar.le (by lia)) r5 (by lia) fun H4 nm a k6 r6 hnm rnm => ?_).cv
          have eD4 := k6.get hD (by simp; exact Ne.symm lD)
          have k05 : Keep [l] H H3 := k12.trans (kr.pure.trans k5)
          have al5 : Alive S H3 := k05.al al fun a ha => by rw [List.mem_singleton] at ha; rw [ha]; exact r5.al
          tm_at "w"
          rename_i xl nxl
          have k06 := k05.trans k6
          have nxl0 : H xl = none := k06.fresh1 nxl (by simp; exact Ne.symm (r6.ne nxl))
          have DX : D ≠ xl := keep_ne eD4 nxl
          have c1 : Le (cut H3 (D :: S)) (cut (upd H4 xl (.list [.str "list", .ref D, a])) S) := (cut_keep (k6.mono fun a ha => by rw [List.mem_singleton] at ha; rw [ha]; exact .tail _ lS)).trans ((cut_new nxl).trans (cut_sub fun a h => .tail _ h))
          refine h _ (.vec .ls vs nm) _ (k06.trans (Keep.refl.new nxl)) (r6.upd nxl) ?_ (.list (x := xl) (i := D) (cut_at (upd_same _ _ _) (al.nin nxl0)) (cut_at ((upd_ne _ _ DX).trans eD4) D0) ((rnm S al5).mono (cut_new nxl)) vl fun j v a e1 e2 => (hv j v a e1 e2).2.mono c1)
          obtain ⟨n', rfl⟩ : ∃ n', n = n' + 1 := ⟨n - 1, by lia⟩
          refine ⟨by lia, hnm _ (by lia), .inr ⟨rfl, fun x hx => ?_⟩⟩
          obtain ⟨i, hi, rfl⟩ := List.getElem_of_mem hx
          exact (hv i _ _ (List.getElem?_eq_getElem hi) (List.getElem?_eq_getElem (by lia))).1
    all_goals
      tm_at "w"
      rename_i aL naL
      refine b_mod (by decide) ?_
      obtain ⟨k, hk, ek⟩ := kdk kd0 (by lia : kd < 7)
      refine sub_listA (x := .str k.s) (upd_same _ _ _) (Int.fmod_nonneg_of_pos _ (by decide)) (by have := Int.fmod_lt_of_pos kd (by decide : (0 : Int) < 5); lia) ek ?_
      tm_at "w"
      rename_i il nil
      have k2 : Keep [] H1 (upd (upd H1 aL (.list [.str "integer", .str "logical", .str "double", .str "character", .str "integer"])) il (.list [])) := (Keep.refl.new naL).new nil
      have row2 := row1.keep k2
      have al2 := al1.pure k2
      have nil1 : H1 il = none := (Keep.refl.new naL).fresh (S := []) nil
      have nil0 : H il = none := k1.fresh1 nil1 (by simp; exact Ne.symm (row1.ne nil1))
      have k02 := k1.trans k2.pure
      have it2 : Its k S il 0 (upd (upd H1 aL (.list [.str "integer", .str "logical", .str "double", .str "character", .str "integer"])) il (.list [])) := ⟨[], [], upd_same _ _ _, .nil, fun _ h => (nomatch h), rfl⟩
      have ail2 : (upd (upd H1 aL (.list [.str "integer", .str "logical", .str "double", .str "character", .str "integer"])) il (.list [])) il ≠ none := by rw [upd_same]; exact Option.some_ne_none _
      generalize hH2 : (upd (upd H1 aL (.list [.str "integer", .str "logical", .str "double", .str "character", .str "integer"])) il (.list [])) = H2 at *
      refine (row2.draw g (ar.le (by lia)) (by decide) fun H3 cnt k3 row3 c0 c4 => ?_).cv
      obtain ⟨m, rfl⟩ := Int.eq_ofNat_of_zero_le c0
      have lil := Ne.symm (row1.ne nil1)
      have it3 := it2.keep k3 lS lil
      tm_at "w"
      refine cv_range fun rg nrg => ?_
      have it4 := it3.new (o := .rng m) nrg
      have row4 := row3.upd (o := .rng m) nrg
      have k04 := k02.trans (k3.trans (Keep.refl.new (o := .rng m) nrg))
      tm_at "w"
      refine for_rng (fun j σ' => Keep [l] H σ'.H ∧ Row σ'.H l ∧ Its k S il j σ'.H ∧ σ'.m "row" = some (.ref l) ∧ σ'.m "name" = some (.str k.s) ∧ σ'.m "items" = some (.ref il)) (upd_same _ _ _) (by lia) ⟨k04, row4, it4, by tm_at "look", by tm_at "look", by tm_at "look"⟩ ?_ ?_
      · rintro j Po hPo ⟨H5, m'⟩ hj ⟨k5, row5, it5, m1, m2, m3⟩
        tm_at "w"
        refine (row5.draw g (ar.le (by lia)) (by decide) fun H6 d k6 row6 d0 d6 => ?_).cv
        have k06 := k5.trans k6
        have it6 := it5.keep k6 lS lil
        have al6 : Alive (il :: S) H6 := fun b hb => by
          rcases List.mem_cons.mp hb with rfl | hb
          · obtain ⟨_, _, e, _⟩ := it6; rw [e]; exact Option.some_ne_none _
          · exact k06.al al (fun a ha => by rw [List.mem_singleton] at ha; rw [ha]; exact row6.al) b hb
        have fin : ∀ (H7 : AH) (avs : List AV) (a : AV) (m'' : Str → Option AV), Keep [] H6 H7 → Its k S il (j + 1) (upd H7 il (.list (avs ++ [a]))) → m'' "row" = some (.ref l) → m'' "name" = some (.str k.s) → m'' "items" = some (.ref il) →
            Keep [l] H (upd H7 il (.list (avs ++ [a]))) ∧ Row (upd H7 il (.list (avs ++ [a]))) l ∧ Its k S il (j + 1) (upd H7 il (.list (avs ++ [a]))) ∧ m'' "row" = some (.ref l) ∧ m'' "name" = some (.str k.s) ∧ m'' "items" = some (.ref il) := fun H7 avs a m'' k7 i7 q1 q2 q3 =>
          ⟨(k06.trans k7.pure).own nil0, (row6.keep k7).at (Ne.symm lil), i7, q1, q2, q3⟩
        have itx := it6
        obtain ⟨_, avs0, eil, _⟩ := itx
        tm_at "w"
        refine ite_dec (fun q5 => ?_) (fun q5 => ?_)
        · tm_at "w"
          refine ⟨⟨_, eil⟩, ?_⟩
          tm_at "w"
          obtain ⟨avs, e7, l7, i7⟩ := it6.add (.none k) .none
          refine ⟨avs, e7, by rw [sizeLine_eq]; lia, ?_⟩
          tm_at "w"
          exact fin H6 avs _ _ .refl i7 (by tm_at "look") (by tm_at "look") (by tm_at "look")
        · cases k with
          | ls => exact absurd rfl hk
          | lg =>
            dsimp only [Kd.s] at m2 fin
            tm_at "w"
            refine ⟨⟨_, eil⟩, ?_⟩
            tm_at "w"
            refine b_mod (by decide) ?_
            have hd : OkI .lg (.int (d.fmod 2)) := by
              have h1 := Int.fmod_nonneg_of_pos d (by decide : (0 : Int) < 2)
              have h2 := Int.fmod_lt_of_pos d (by decide : (0 : Int) < 2)
              have : d.fmod 2 = 0 ∨ d.fmod 2 = 1 := by lia
              rcases this with e | e <;> rw [e]
              · exact .l0
              · exact .l1
            obtain ⟨avs, e7, l7, i7⟩ := it6.add hd (.int _)
            refine ⟨avs, e7, by rw [sizeLine_eq]; lia, ?_⟩
            tm_at "w"
            exact fin H6 avs _ _ .refl i7 (by tm_at "look") (by tm_at "look") (by tm_at "look")
          | it =>
            dsimp only [Kd.s] at m2 fin
            tm_at "w"
            refine ⟨⟨_, eil⟩, ?_⟩
            tm_at "w"
            obtain ⟨avs, e7, l7, i7⟩ := it6.add (.i (d - 2) (by lia) (by lia)) (.int _)
            refine ⟨avs, e7, by rw [sizeLine_eq]; lia, ?_⟩
            tm_at "w"
            exact fin H6 avs _ _ .refl i7 (by tm_at "look") (by tm_at "look") (by tm_at "look")
          | ch =>
            dsimp only [Kd.s] at m2 fin
            tm_at "w"
            refine ⟨⟨_, eil⟩, ?_⟩
            tm_at "w"
            rename_i bL nbL
            have k7 : Keep [] H6 (upd H6 bL (.list [.str "", .str "s", .str "t u", .str "1", .str "TRUE"])) := Keep.refl.new nbL
            have it7 := it6.new (o := .list [.str "", .str "s", .str "t u", .str "1", .str "TRUE"]) nbL
            have hd : ∃ x, OkS x ∧ [AV.str "", .str "s", .str "t u", .str "1", .str "TRUE"][d.toNat]? = some (.str x) := by
              have : d = 0 ∨ d = 1 ∨ d = 2 ∨ d = 3 ∨ d = 4 := by lia
              rcases this with rfl | rfl | rfl | rfl | rfl
              · exact ⟨_, .inl rfl, rfl⟩
              · exact ⟨_, .inr (.inl rfl), rfl⟩
              · exact ⟨_, .inr (.inr (.inl rfl)), rfl⟩
              · exact ⟨_, .inr (.inr (.inr (.inl rfl))), rfl⟩
              · exact ⟨_, .inr (.inr (.inr (.inr rfl))), rfl⟩
            obtain ⟨x, ox, ex⟩ := hd
            refine sub_listA (upd_same _ _ _) (by lia) (by lia) ex ?_
            obtain ⟨avs, e7, l7, i7⟩ := it7.add (.s x ox) (.str _)
            refine ⟨avs, e7, by rw [sizeLine_eq]; lia, ?_⟩
            tm_at "w"
            exact fin _ avs _ _ k7 i7 (by tm_at "look") (by tm_at "look") (by tm_at "look")
          | db =>
            dsimp only [Kd.s] at m2 fin
            tm_at "w"
            refine ⟨⟨_, eil⟩, ?_⟩
            tm_at "w"
            rename_i a1 f1 a2 f2 a3 f3 a4 f4 a5 f5 aL2 fL2
            have K1 : Keep [] H6 _ := Keep.refl.new (o := .tup [AV.int 0, AV.int 1]) f1
            have K2 := K1.new (o := .tup [AV.int 3, AV.int 2]) f2
            have K3 := K2.new (o := .tup [AV.int (-2), AV.int 1]) f3
            have K4 := K3.new (o := .tup [AV.int 0, AV.int 0]) f4
            have K5 := K4.new (o := .tup [AV.int 1, AV.int 0]) f5
            have K6 := K5.new (o := .list [.ref a1, .ref a2, .ref a3, .ref a4, .ref a5]) fL2
            have it7 := ((((((it6.new (o := .tup [AV.int 0, AV.int 1]) f1).new (o := .tup [AV.int 3, AV.int 2]) f2).new (o := .tup [AV.int (-2), AV.int 1]) f3).new (o := .tup [AV.int 0, AV.int 0]) f4).new (o := .tup [AV.int 1, AV.int 0]) f5).new (o := .list [.ref a1, .ref a2, .ref a3, .ref a4, .ref a5]) fL2)
            have hd : ∃ nn dd t, OkI .db (.dbl nn dd) ∧ [AV.ref a1, .ref a2, .ref a3, .ref a4, .ref a5][d.toNat]? = some (.ref t) ∧ (upd (upd (upd (upd (upd (upd H6 a1 (.tup [AV.int 0, AV.int 1])) a2 (.tup [AV.int 3, AV.int 2])) a3 (.tup [AV.int (-2), AV.int 1])) a4 (.tup [AV.int 0, AV.int 0])) a5 (.tup [AV.int 1, AV.int 0])) aL2 (.list [.ref a1, .ref a2, .ref a3, .ref a4, .ref a5])) t = some (.tup [.int nn, .int dd]) ∧ t ∉ il :: S := by
              have : d = 0 ∨ d = 1 ∨ d = 2 ∨ d = 3 ∨ d = 4 := by lia
              rcases this with rfl | rfl | rfl | rfl | rfl
              · exact ⟨_, _, a1, .d0, rfl, by tm_at "get", al6.nin f1⟩
              · exact ⟨_, _, a2, .d1, rfl, by tm_at "get", al6.nin (K1.fresh (S := []) f2)⟩
              · exact ⟨_, _, a3, .d2, rfl, by tm_at "get", al6.nin (K2.fresh (S := []) f3)⟩
              · exact ⟨_, _, a4, .d3, rfl, by tm_at "get", al6.nin (K3.fresh (S := []) f4)⟩
              · exact ⟨_, _, a5, .d4, rfl, by tm_at "get", al6.nin (K4.fresh (S := []) f5)⟩
            obtain ⟨nn, dd, t, od, ed, et, nt⟩ := hd
            refine sub_listA (upd_same _ _ _) (by lia) (by lia) ed ?_
            obtain ⟨avs, e7, l7, i7⟩ := it7.add od (.dbl (cut_at et nt))
            refine ⟨avs, e7, by rw [sizeLine_eq]; lia, ?_⟩
            tm_at "w"
            exact fin _ avs _ _ K6 i7 (by tm_at "look") (by tm_at "look") (by tm_at "look")
      · rintro ⟨H5, m'⟩ ⟨k5, row5, it5, m1, m2, m3⟩
        have itx := it5
        obtain ⟨xs, avs, eil, rvs, oks, xlen⟩ := itx
        have al5 : Alive S H5 := k5.al al fun a ha => by rw [List.mem_singleton] at ha; rw [ha]; exact row5.al
        tm_at "w"
        refine cv_len eil (by rw [← rvs.1]; lia) ?_
        rw [← rvs.1, xlen]
        tm_at "w"
        refine (sp_lnames g (ar.le (by lia)) row5 (by lia) fun H6 nm a k6 r6 hnm rnm => ?_).cv
        have e6 := k6.get eil (by simp; exact lil)
        tm_at "w"
        rename_i xl nxl
        have k06 := k5.trans k6
        have nxl0 : H xl = none := k06.fresh1 nxl (by simp; exact Ne.symm (r6.ne nxl))
        have IX : il ≠ xl := keep_ne e6 nxl
        have c1 : Le (cut H5 (il :: S)) (cut (upd H6 xl (.list [.str k.s, .ref il, a])) S) := (cut_keep (k6.mono fun a ha => by rw [List.mem_singleton] at ha; rw [ha]; exact .tail _ lS)).trans ((cut_new nxl).trans (cut_sub fun a h => .tail _ h))
        refine h _ (.vec k xs nm) _ (k06.trans (Keep.refl.new nxl)) (r6.upd nxl) ?_ (.vec (x := xl) (i := il) hk (cut_at (upd_same _ _ _) (al.nin nxl0)) (cut_at ((upd_ne _ _ IX).trans e6) (al.nin nil0)) ((rnm S al5).mono (cut_new nxl)) (rvs.mono c1))
        have hx3 : xs.length ≤ 3 := by lia
        cases n with
        | zero => exact ⟨hx3, hnm _ xlen, hk, oks⟩
        | succ n => exact ⟨hx3, hnm _ xlen, .inl ⟨hk, oks⟩⟩
end
section
variable {G : Md} {A : Around} {H F : AH} {Q : AV → AH → Prop}
theorem le_cutS2 {F H : AH} {S : List Addr} (l : Le F H) (n : ∀ a ∈ S, F a = none) : Le F (cut H S) := le_cut l n
theorem sp_built (g : GO G) : ∀ (n : Nat) (v : Vv), OkP n v → ∀ {A : Around} {H F : AH} {a : AV} {S : List Addr} {Q : AV → AH → Prop}, Ar (n + 5) A → RP F v a → Le F (cut H S) → Alive S H → (∀ H' a', Keep [] H H' → RV (cut H' S) v a' → Q a' H') → CC G A 612 [a] Q H := by
  intro n
  induction n using Nat.strongRecOn with
  | ind n ih =>
    intro v ok A H F a S Q ar r lF al h
    refine go1 g ar (fx612 g) rfl ?_
    intro A env ar eo hsc
    have lH : Le F H := lF.trans (cut_le _ _)
    have hh : (∃ x i, v = .null ∧ a = .ref x ∧ F x = some (.list [.str "NULL", .ref i, .none])) ∨ ∃ k xs nm x i nmv avs, v = .vec k xs nm ∧ a = .ref x ∧ F x = some (.list [.str k.s, .ref i, nmv]) ∧ F i = some (.list avs) ∧ RPN F nm nmv ∧ xs.length = avs.length ∧
        (k ≠ .ls → RVs F xs avs) ∧ (k = .ls → ∀ (j : Nat) v a, xs[j]? = some v → avs[j]? = some a → RP F v a) := by
      cases r with
      | null ex ei => exact .inl ⟨_, _, rfl, rfl, ex⟩
      | vec hk ex ei rn hx => exact .inr ⟨_, _, _, _, _, _, _, rfl, rfl, ex, ei, rn, hx.1, fun _ => hx, fun q => absurd q hk⟩
      | list ex ei rn hl hx => exact .inr ⟨_, _, _, _, _, _, _, rfl, rfl, ex, ei, rn, hl, fun q => absurd rfl q, fun _ => hx⟩
    rcases hh with ⟨x, i, rfl, rfl, ex⟩ | ⟨k, xs, nm, x, i, nmv, avs, rfl, rfl, ex, ei, rn, hl, hx1, hx2⟩
    · have ex' := lH _ _ ex
      tm_at "w"
      refine (sp_null g (ar.le (by lia)) fun H1 y d k1 ny nd ey ed => ?_).cv
      tm_at "w"
      exact h _ _ k1 (.null ⟨d, cut_at ey (al.nin ny), cut_at ed (al.nin nd)⟩)
    · have ex' := lH _ _ ex
      have ei' := lH _ _ ei
      have hz := ok.len
      have hnm := ok.nm
      have iS : i ∉ S := fun q => by have := lF _ _ ei; rw [cut_in q] at this; cases this
      tm_at "w"
      refine ite_dec (fun q => absurd q (knull k)) (fun _ => ?_)
      tm_at "w"
      rw [klist]
      refine if_join (fun σ' => Keep [] H σ'.H ∧ σ'.m "piece" = some (.ref x) ∧ ∃ li avs1, σ'.m "items" = some (.ref li) ∧ σ'.H li = some (.list avs1) ∧ RVs (cut σ'.H S) xs avs1 ∧ li ∉ S) (fun q => ?_) (fun q => ?_) ?_
      · have q' : k = .ls := by simpa using q
        subst q'
        obtain ⟨m, rfl, hok⟩ := ok.ls
        tm_at "w"
        refine comp_map [] S (fun H' => Keep [] H H') (fun j u F => ∀ z, xs[j]? = some z → RV F z u) (.list ei') hsc rfl (fun _ h => nomatch h) al (fun H' _ k => k.le _ _ ei') .refl (fun _ _ _ n k => k.own n) (fun _ _ _ _ l h z e => (h z e).mono l) (by lia) ?_ ?_
        · intro D j b cenv σ' nD aD eo hsc hj hb k3 j3 hc Po hPo
          obtain ⟨z, ez⟩ := list_at_len hl hb
          have LD : Le F (cut σ'.H (D :: S)) := (lF.trans (cut_new' nD)).trans (cut_keep j3.pure)
          have al' : Alive (D :: S) σ'.H := fun b hb => by
            rcases List.mem_cons.mp hb with rfl | hb
            · exact aD
            · exact j3.alive (S := []) (al b hb)
          tm_at "w"
          refine (ih m (by lia) z (hok z (List.mem_of_getElem? ez)) (S := D :: S) (ar.le (by lia)) (hx2 rfl j z b ez hb) LD al' fun H' a' k' r' => ?_).cv
          exact hPo _ _ ⟨k'.pure, j3.trans k', fun z' ez' => by rw [ez] at ez'; cases ez'; exact r', fun _ h => nomatch h⟩
        · intro D H3 ys nD k3 j3 hD hn hy
          tm_at "w"
          exact ⟨trivial, j3, by tm_at "look", D, ys, by tm_at "look", hD, ⟨by lia, fun j z u e1 e2 => (hy j u e2 z e1).mono (cut_sub fun a h => .tail _ h)⟩, al.nin nD⟩
      · have q' : k ≠ .ls := by simpa using q
        exact ⟨.refl, by tm_at "look", i, avs, by tm_at "look", ei', (hx1 q').mono lF, iS⟩
      · rintro ⟨H1, m⟩ ⟨k1, m1, li, avs1, m2, e1, r1, lS⟩
        have ex1 := k1.le _ _ ex'
        tm_at "w"
        refine (sp_Vector g (ar.le (by lia)) fun H2 y d k2 ny nd nv => ?_).cv
        have k02 := k1.trans k2
        have ny0 := k1.fresh (S := []) ny
        have nd0 := k1.fresh (S := []) nd
        have ex2 := k2.le _ _ ex1
        have e2 := k2.le _ _ e1
        have r2 := r1.mono (cut_keep k2.pure)
        cases rn with
        | none =>
          tm_at "w"
          exact h _ _ k02 (rv_vec (NVec.obj nv) e2 .none r2 (al.nin ny0) (al.nin nd0) lS)
        | @some nms ln eln =>
          have eln2 := k02.le _ _ (lH _ _ eln)
          tm_at "w"
          refine we_Dict1 fun da na => ?_
          have xa := keep_ne ex2 na
          have la := keep_ne eln2 na
          have ya := keep_ne nv.x na
          have dda := keep_ne nv.d na
          have lia := keep_ne e2 na
          have ex3 := (upd_ne H2 (.dict []) xa).trans ex2
          tm_at "w"
          refine (sp_character g (ar.le (by lia)) ((upd_ne _ _ la).trans eln2) (by rw [List.length_map, hnm.1, sizeLine_eq]; lia) fun H3 z zd l' k3 nz nzd nl nvz e3 => ?_).cv
          have a3 : H3 da = some (.dict []) := k3.le _ _ (upd_same _ _ _)
          have vx := k3.le _ _ ((upd_ne _ _ ya).trans nv.x)
          have vd := k3.le _ _ ((upd_ne _ _ dda).trans nv.d)
          have li3 := k3.le _ _ ((upd_ne _ _ lia).trans e2)
          have K2a : Keep [] H2 (upd H2 da (.dict [])) := Keep.refl.new na
          have K23 : Keep [] H2 H3 := K2a.trans k3
          refine ⟨a3, ?_⟩
          tm_at "w"
          refine seta_mk ((upd_ne _ _ ya).trans vx) ((upd_ne _ _ dda).trans vd) (cV_attrs g) (by simp only [List.length_cons, List.length_nil]; decide) ?_
          simp only [dput, ofS_eq, String.reduceEq, if_false, if_true]
          tm_at "w"
          have dz : d ≠ z := fun q => by rw [← q, upd_ne _ _ dda, nv.d] at nz; cases nz
          have dzd : d ≠ zd := fun q => by rw [← q, upd_ne _ _ dda, nv.d] at nzd; cases nzd
          have dl : d ≠ l' := fun q => by rw [← q, upd_ne _ _ dda, nv.d] at nl; cases nl
          have az : da ≠ z := fun q => by rw [← q, upd_same] at nz; cases nz
          have azd : da ≠ zd := fun q => by rw [← q, upd_same] at nzd; cases nzd
          have al' : da ≠ l' := fun q => by rw [← q, upd_same] at nl; cases nl
          have yd : y ≠ d := (NVec.obj nv).ne
          have lid : li ≠ d := fun q => by rw [q, nv.d] at e2; cases e2
          have na0 := k02.fresh (S := []) na
          have nz0 := (k02.trans K2a).fresh (S := []) nz
          have nzd0 := (k02.trans K2a).fresh (S := []) nzd
          have nl0 := (k02.trans K2a).fresh (S := []) nl
          have k03 := k02.trans K23
          have K1f : Keep [] H1 (upd (upd H3 da (.dict [("names", .ref z)])) d (.dict [("kind", .str k.s), ("items", .ref li), ("attrs", .ref da), ("shared", .bool false), ("loose", .bool false)])) := ((k2.trans K23).own (k2.fresh (S := []) na)).own nd
          refine h _ _ ((k03.own na0).own nd0) (rv_vec (d := d) (l := li) (b := false) (c := false) (avs := avs1) (av := .ref da) ⟨(upd_ne _ _ yd).trans ((upd_ne _ _ ya).trans vx), upd_same _ _ _⟩ ((upd_ne _ _ lid).trans ((upd_ne _ _ lia).trans li3)) ?_ (r1.mono (cut_keep K1f.pure)) (al.nin ny0) (al.nin nd0) lS)
          refine .some (y := z) (l := l') (cut_at ((upd_ne _ _ (Ne.symm dda)).trans (upd_same _ _ _)) (al.nin na0)) ⟨zd, false, false, cut_at ?_ (al.nin nz0), cut_at ?_ (al.nin nzd0)⟩ (cut_at ?_ (al.nin nl0))
          · rw [upd_ne _ _ (Ne.symm dz), upd_ne _ _ (Ne.symm az)]; exact nvz.x
          · rw [upd_ne _ _ (Ne.symm dzd), upd_ne _ _ (Ne.symm azd)]; exact nvz.d
          · rw [upd_ne _ _ (Ne.symm dl), upd_ne _ _ (Ne.symm al')]; exact e3
end
section
variable {G : Md} {A : Around} {H F : AH} {Q : AV → AH → Prop}
noncomputable def kvE (keys : List (Option Expr)) (vals : List Expr) : List (Expr × Expr) := (keys.zip vals).map fun p => (p.1.getD p.2, p.2)
theorem wp_cons {env : Env} {σ : St} {pos : Pos} {k v : Expr} {r : List (Expr × Expr)} {Q : List (AV × AV) → St → Prop} (h : WE G A env k (fun k σ₁ => WE G A env v (fun v σ₂ => WP G A env pos r (fun l σ₃ => Q ((k, v) :: l) σ₃) σ₂) σ₁) σ) : WP G A env pos ((k, v) :: r) Q σ := h
theorem wp_nil {env : Env} {σ : St} {pos : Pos} {Q : List (AV × AV) → St → Prop} (h : Q [] σ) : WP G A env pos [] Q σ := h
theorem we_SubDictT' {env : Env} {σ : St} {pos kp : Pos} {slice : Expr} {Q : AV → St → Prop} {keys : List (Option Expr)} {vals : List Expr}
    (hshape : (evalEachOpt keys env).zip ((evalEach vals env).map fun v => do let x ← v; standAt kp; pure x) = ((kvE keys vals).map fun p => (eval p.1 env, do let x ← eval p.2 env; standAt kp; pure x)).map fun p => (some p.1, p.2))
    (h0 : kvE keys vals ≠ []) (hlen : (kvE keys vals).length ≤ 15) (hu : A.units + 1 < cLine) (ns : NoSl slice)
    (h : WP G A env kp (kvE keys vals) (fun kvs σ₁ => ∃ es, KVs σ₁.H kvs es ∧ (es.map (·.1)).Nodup ∧ es.length ≤ 50 ∧ WE G A env slice (fun iv σ₂ => KVs σ₂.H kvs es ∧ ∃ a is v, iv = .ref a ∧ σ₂.H a = some (.tup (is.map .int)) ∧ lastOf es is = some v ∧ Q v σ₂) σ₁) σ) :
    WE G A env (.Subscript (.Dict keys vals kp) slice pos) Q σ := we_SubDictT (p' := pos) keys vals hshape h0 hlen hu ns h
theorem sp_ltext0 (g : GO G) (ar : Ar 2 A) {k : Str} (h : Q .none H) : CC G A 626 [.str k, .none] Q H := by
  refine go2 g ar (fx626 g) rfl ?_
  intro A env ar eo hsc
  tm_at "w"
  exact h
theorem sp_ltextC (g : GO G) (ar : Ar 2 A) {s : Str} (h : Q (.str s) H) : CC G A 626 [.str "character", .str s] Q H := by
  refine go2 g ar (fx626 g) rfl ?_
  intro A env ar eo hsc
  tm_at "w"
  exact h
theorem sp_ltextL (g : GO G) (ar : Ar 2 A) {i : Int} (hi : i = 0 ∨ i = 1) (h : ∀ H', Keep [] H H' → Q (.str (if i = 1 then "TRUE" else "FALSE")) H') : CC G A 626 [.str "logical", .int i] Q H := by
  refine go2 g ar (fx626 g) rfl ?_
  intro A env ar eo hsc
  rcases hi with rfl | rfl
  · tm_at "w"
    exact h _ (Keep.refl.new (by assumption))
  · tm_at "w"
    exact h _ (Keep.refl.new (by assumption))
theorem sp_ltextI (g : GO G) (ar : Ar 2 A) {i : Int} (hi : i.natAbs.log2 < 1920) (h : Q (.str (Str.ofString (toString i))) H) : CC G A 626 [.str "integer", .int i] Q H := by
  refine go2 g ar (fx626 g) rfl ?_
  intro A env ar eo hsc
  tm_at "w"
  refine cv_str hi ?_
  tm_at "w"
  exact h
theorem sp_ltextD (g : GO G) (ar : Ar 2 A) {x : Addr} {n d : Int} (ok : OkI .db (.dbl n d)) (hx : H x = some (.tup [.int n, .int d])) (h : ∀ H', Keep [] H H' → Q (.str (dtx n d)) H') : CC G A 626 [.str "double", .ref x] Q H := by
  refine go2 g ar (fx626 g) rfl ?_
  intro A env ar eo hsc
  tm_at "w"
  refine' we_SubDictT' ?h1 ?h2 ?h3 ?h4 ?h5 _
  case h5 => exact fun _ _ => rfl
  case h1 => rfl
  case h2 => simp [kvE]
  case h3 => simp [kvE]
  case h4 => have := ar.un; lia
  simp only [kvE, List.zip_cons_cons, List.zip_nil_left, List.zip_nil_right, List.map_cons, List.map_nil, Option.getD_some]
  refine wp_cons ?_
  tm_at "w"
  refine wp_cons ?_
  tm_at "w"
  refine wp_cons ?_
  tm_at "w"
  refine wp_cons ?_
  tm_at "w"
  refine wp_cons ?_
  tm_at "w"
  refine wp_nil ?_
  rename_i a1 f1 a2 f2 a3 f3 a4 f4 a5 f5
  have K5 : Keep [] H _ := ((((Keep.refl.new (o := .tup [AV.int 0, AV.int 1]) f1).new (o := .tup [AV.int 3, AV.int 2]) f2).new (o := .tup [AV.int (-2), AV.int 1]) f3).new (o := .tup [AV.int 0, AV.int 0]) f4).new (o := .tup [AV.int 1, AV.int 0]) f5
  have kv : KVs (upd (upd (upd (upd (upd H a1 (.tup [AV.int 0, AV.int 1])) a2 (.tup [AV.int 3, AV.int 2])) a3 (.tup [AV.int (-2), AV.int 1])) a4 (.tup [AV.int 0, AV.int 0])) a5 (.tup [AV.int 1, AV.int 0])) [(.ref a1, .str "0"), (.ref a2, .str "1.5"), (.ref a3, .str "-2"), (.ref a4, .str "NaN"), (.ref a5, .str "Inf")] [([0, 1], a1, .str "0"), ([3, 2], a2, .str "1.5"), ([-2, 1], a3, .str "-2"), ([0, 0], a4, .str "NaN"), ([1, 0], a5, .str "Inf")] :=
    .cons (is := [0, 1]) (by simp only [List.map_cons, List.map_nil]; tm_at "get") (.cons (is := [3, 2]) (by simp only [List.map_cons, List.map_nil]; tm_at "get") (.cons (is := [-2, 1]) (by simp only [List.map_cons, List.map_nil]; tm_at "get") (.cons (is := [0, 0]) (by simp only [List.map_cons, List.map_nil]; tm_at "get") (.cons (is := [1, 0]) (by simp only [List.map_cons, List.map_nil]; tm_at "get") .nil))))
  refine ⟨_, kv, by simp only [List.map_cons, List.map_nil]; decide, by simp, ?_⟩
  tm_at "w"
  refine ⟨kv, x, [n, d], .str (dtx n d), rfl, K5.le _ _ hx, ?_, ?_⟩
  · cases ok <;> rfl
  · tm_at "w"
    exact h _ K5
end
section
variable {G : Md} {A : Around} {H F : AH} {Q : AV → AH → Prop}
/-- an item as the law holds it: a piece within a list, a value elsewhere -/
noncomputable def LI (F : AH) (k : Kd) (v : Vv) (a : AV) : Prop := if k = .ls then RP F v a ∧ OkP 3 v else RV F v a ∧ OkI k v
theorem LI.mono {F F' : AH} {k : Kd} {v : Vv} {a : AV} (h : LI F k v a) (l : Le F F') : LI F' k v a := by
  unfold LI at h ⊢
  split
  · rename_i q; rw [if_pos q] at h; exact ⟨h.1.mono l, h.2⟩
  · rename_i q; rw [if_neg q] at h; exact ⟨h.1.mono l, h.2⟩
theorem sp_las (g : GO G) (ar : Ar 10 A) {k to : Kd} {v : Vv} {a : AV} {S : List Addr} (le : k.o ≤ to.o) (li : LI (cut H S) k v a) (al : Alive S H) (h : ∀ H' a', Keep [] H H' → RV (cut H' S) (conv k to v) a' → Q a' H') : CC G A 633 [.str k.s, a, .str to.s] Q H := by
  refine go3 g ar (fx633 g) rfl ?_
  intro A env ar eo hsc
  by_cases hk : k = .ls
  · subst hk
    have : to = .ls := by cases to <;> simp [Kd.o] at le ⊢
    subst this
    unfold LI at li
    rw [if_pos rfl] at li
    dsimp only [Kd.s]
    tm_at "w"
    refine (sp_built g 3 v li.2 (ar.le (by decide)) li.1 (Le.refl _) al fun H' a' k' r' => ?_).cv
    tm_at "w"
    exact h _ _ k' (by unfold conv; rw [if_pos rfl]; exact r')
  · unfold LI at li
    rw [if_neg hk] at li
    obtain ⟨r, ok⟩ := li
    have kn : ¬ k.s = "list" := by cases k <;> first | exact absurd rfl hk | simp [Kd.s, ofS_eq]
    cases to with
    | ls =>
      simp only [show Kd.s .ls = "list" from rfl]
      tm_at "w"
      refine ite_dec (fun q => absurd q kn) (fun _ => ?_)
      tm_at "w"
      rename_i aN fN
      refine (sp_Vector g (ar.le (by decide)) fun H2 y d k2 ny nd nv => ?_).cv
      tm_at "w"
      have K2 : Keep [] H H2 := (Keep.refl.new fN).trans k2
      exact h _ _ K2 (by
        unfold conv; rw [if_neg hk]
        exact rv_vec (NVec.obj nv) (k2.le _ _ (upd_same _ _ _)) .none (.one (r.mono (cut_keep K2.pure))) (al.nin ((Keep.refl.new fN).fresh (S := []) ny)) (al.nin ((Keep.refl.new fN).fresh (S := []) nd)) (al.nin fN))
    | ch =>
      simp only [show Kd.s .ch = "character" from rfl]
      tm_at "w"
      cases k with
      | ls => exact absurd rfl hk
      | lg =>
        rcases lg_ok ok with rfl | ⟨i, rfl, hi⟩ <;> cases r
        · refine (sp_ltext0 g (ar.le (by decide)) ?_).cv
          tm_at "w"
          exact h _ _ .refl .none
        · refine (sp_ltextL g (ar.le (by decide)) hi fun H1 k1 => ?_).cv
          tm_at "w"
          exact h _ _ k1 (.str _)
      | it =>
        rcases it_ok ok with rfl | ⟨i, rfl, h1, h2⟩ <;> cases r
        · refine (sp_ltext0 g (ar.le (by decide)) ?_).cv
          tm_at "w"
          exact h _ _ .refl .none
        · refine (sp_ltextI g (ar.le (by decide)) (log2_small h1 h2) ?_).cv
          tm_at "w"
          exact h _ _ .refl (.str _)
      | db =>
        rcases dt_ok ok with rfl | ⟨n, d, rfl, dt⟩
        · cases r
          refine (sp_ltext0 g (ar.le (by decide)) ?_).cv
          tm_at "w"
          exact h _ _ .refl .none
        · cases r with
          | dbl e =>
          refine (sp_ltextD g (ar.le (by decide)) ok (cut_le _ _ _ _ e) fun H1 k1 => ?_).cv
          tm_at "w"
          exact h _ _ k1 (.str _)
      | ch =>
        have hx : v = .none ∨ ∃ s, v = .str s := by cases ok; exact .inl rfl; exact .inr ⟨_, rfl⟩
        rcases hx with rfl | ⟨s, rfl⟩ <;> cases r
        · refine (sp_ltext0 g (ar.le (by decide)) ?_).cv
          tm_at "w"
          exact h _ _ .refl .none
        · refine (sp_ltextC g (ar.le (by decide)) ?_).cv
          tm_at "w"
          exact h _ _ .refl (.str _)
    | db =>
      simp only [show Kd.s .db = "double" from rfl]
      tm_at "w"
      by_cases kd : k = .db
      · subst kd
        refine ite_dec (fun q => absurd rfl q) (fun _ => ?_)
        tm_at "w"
        exact h _ _ .refl (by unfold conv; rw [if_pos rfl]; exact r)
      · have k1 : ¬ k.s = "double" := by cases k <;> first | exact absurd rfl kd | simp [Kd.s, ofS_eq]
        refine ite_dec (fun _ => ?_) (fun q => absurd k1 q)
        have xx : v = .none ∨ ∃ i, v = .int i := by
          cases k with
          | lg => exact (lg_ok ok).imp id fun ⟨i, e, _⟩ => ⟨i, e⟩
          | it => exact (it_ok ok).imp id fun ⟨i, e, _⟩ => ⟨i, e⟩
          | db => exact absurd rfl kd
          | _ => simp [Kd.o] at le
        have cc : conv k .db v = dblV v := by unfold conv; rw [if_neg kd]
        rcases xx with rfl | ⟨i, rfl⟩ <;> cases r
        · tm_at "w"
          exact h _ _ .refl (by rw [cc]; exact .none)
        · tm_at "w"
          rename_i aN fN
          exact h _ _ (Keep.refl.new fN) (by rw [cc]; exact .dbl (cut_at (upd_same _ _ _) (al.nin fN)))
    | it =>
      simp only [show Kd.s .it = "integer" from rfl]
      tm_at "w"
      exact h _ _ .refl (by
        unfold conv
        split
        · exact r
        · exact r)
    | lg =>
      simp only [show Kd.s .lg = "logical" from rfl]
      tm_at "w"
      exact h _ _ .refl (by
        unfold conv
        split
        · exact r
        · exact r)
end
section
variable {G : Md} {A : Around} {H F : AH} {Q : AV → AH → Prop}
/-- the kinds of the leaves' vectors -/
noncomputable def ksV (u : Bool) (v : Vv) : List Kd := (gl u v).map vk
theorem flat_range {α β : Type} (f : α → List β) (xs : List α) : (List.range xs.length).flatMap (fun j => (xs[j]?.map f).getD []) = xs.flatMap f := by
  have go : ∀ m ≤ xs.length, (List.range m).flatMap (fun j => (xs[j]?.map f).getD []) = (xs.take m).flatMap f := by
    intro m
    induction m with
    | zero => intro _; simp
    | succ m ih =>
      intro hm
      have e : xs[m]? = some xs[m] := List.getElem?_eq_getElem (by lia)
      rw [List.range_succ, List.flatMap_append, ih (by lia), take_snoc e, List.flatMap_append]
      simp [e]
  rw [go _ (Nat.le_refl _), List.take_of_length_le (Nat.le_refl _)]
theorem gls_flat (u : Bool) (xs : List Vv) : gls u xs = xs.flatMap (gl u) := by
  induction xs with
  | nil => simp [gls]
  | cons x xs ih => simp [gls, ih]
theorem pw_le {n : Nat} (h : n ≤ 3) : pw n ≤ 81 := by
  have : n = 0 ∨ n = 1 ∨ n = 2 ∨ n = 3 := by lia
  rcases this with rfl | rfl | rfl | rfl <;> decide
theorem sp_kinds (g : GO G) (u : Bool) : ∀ (n : Nat) (v : Vv), n ≤ 3 → OkP n v → ∀ {A : Around} {H F : AH} {a : AV} {Q : AV → AH → Prop}, Ar (n + 1) A → RP F v a → Le F H → (∀ H' l, Keep [] H H' → H l = none → H' l = some (.list ((ksV u v).map fun k => .str k.s)) → Q (.ref l) H') → CC G A 638 [a, .bool u] Q H := by
  intro n
  induction n using Nat.strongRecOn with
  | ind n ih =>
    intro v n3 ok A H F a Q ar r lH h
    refine go2 g ar (fx638 g) rfl ?_
    intro A env ar eo hsc
    have hh : (∃ x i, v = .null ∧ a = .ref x ∧ F x = some (.list [.str "NULL", .ref i, .none])) ∨ ∃ k xs nm x i nmv avs, v = .vec k xs nm ∧ a = .ref x ∧ F x = some (.list [.str k.s, .ref i, nmv]) ∧ F i = some (.list avs) ∧ RPN F nm nmv ∧ xs.length = avs.length ∧
        (k ≠ .ls → RVs F xs avs) ∧ (k = .ls → ∀ (j : Nat) v a, xs[j]? = some v → avs[j]? = some a → RP F v a) := by
      cases r with
      | null ex ei => exact .inl ⟨_, _, rfl, rfl, ex⟩
      | vec hk ex ei rn hx => exact .inr ⟨_, _, _, _, _, _, _, rfl, rfl, ex, ei, rn, hx.1, fun _ => hx, fun q => absurd q hk⟩
      | list ex ei rn hl hx => exact .inr ⟨_, _, _, _, _, _, _, rfl, rfl, ex, ei, rn, hl, fun q => absurd rfl q, fun _ => hx⟩
    rcases hh with ⟨x, i, rfl, rfl, ex⟩ | ⟨k, xs, nm, x, i, nmv, avs, rfl, rfl, ex, ei, rn, hl, hx1, hx2⟩
    · have ex' := lH _ _ ex
      tm_at "w"
      exact h _ _ (Keep.refl.new (by assumption)) (by assumption) (upd_same _ _ _)
    · have ex' := lH _ _ ex
      have ei' := lH _ _ ei
      have hz := ok.len
      tm_at "w"
      refine ite_dec (fun q => absurd q (knull k)) (fun _ => ?_)
      tm_at "w"
      rw [klist]
      by_cases hk : k = .ls
      · subst hk
        rw [decide_eq_true rfl]
        cases u with
        | false =>
          tm_at "w"
          exact h _ _ (Keep.refl.new (by assumption)) (by assumption) (upd_same _ _ _)
        | true =>
          obtain ⟨m, rfl, hok⟩ := ok.ls
          tm_at "w"
          refine comp_flat (elt := .Name "x" ⟨0, 0, 0, 0⟩) [("unfold", .bool true)] (fun j => (xs[j]?.map fun z => (ksV true z).map fun k => AV.str k.s).getD []) (.list ei') hsc rfl ?_ ar.hh (fun _ _ => rfl) (by decide +kernel) ?_ (fun H' k => k.le _ _ ei') (by lia) ?_ ?_ ?_
          · intro p hp
            rw [List.mem_singleton] at hp
            subst hp
            tm_at "look"
          · intro p hp
            rw [List.mem_singleton] at hp
            subst hp
            exact sne (by decide)
          · intro j
            cases q : xs[j]? with
            | none => simp
            | some z =>
              have := gl_le (u := true) m z (hok z (List.mem_of_getElem? q))
              have := pw_le (n := m) (by lia)
              simp [ksV]; lia
          · intro D j b cenv σ' nD aD eo hsc hj hb k3 hc
            obtain ⟨z, ez⟩ := list_at_len hl hb
            have hu := hc _ (List.mem_singleton.mpr rfl)
            dsimp only at hu
            have l3 : Le F σ'.H := le_pure lH k3
            tm_at "w"
            refine (ih m (by lia) z (by lia) (hok z (List.mem_of_getElem? ez)) (ar.le (by lia)) (hx2 rfl j z b ez hb) l3 fun H' l' k' nl' e' => ?_).cv
            refine ⟨l', rfl, k', fun q => aD (by rw [← q]; exact nl'), by rw [ez]; exact e', fun p hp => ?_⟩
            rw [List.mem_singleton] at hp
            subst hp
            tm_at "look"
          · intro D H' nD k' eD
            tm_at "w"
            refine h _ _ k' nD ?_
            rw [eD, ← hl, flat_range (fun z => (ksV true z).map fun k => AV.str k.s) xs]
            simp only [ksV, gl, Bool.true_and, decide_true, if_true, gls_flat, List.map_flatMap]
      · rw [decide_eq_false hk]
        tm_at "w"
        refine h _ _ (Keep.refl.new (by assumption)) (by assumption) ((upd_same _ _ _).trans ?_)
        simp [ksV, gl, hk, vk]
end
section
variable {G : Md} {A : Around} {H F : AH} {Q : AV → AH → Prop}
theorem hns_any (u : Bool) (xs : List Vv) : hns u xs = xs.any (hn u) := by
  induction xs with
  | nil => simp [hns]
  | cons x xs ih => simp [hns, ih]
theorem bools_any {ys : List AV} {xs : List Vv} {f : Vv → Bool} (h : ys = xs.map fun z => .bool (f z)) : (ys.any fun y => feq y (.bool true)) = xs.any f := by
  subst h
  rw [List.any_map]
  congr 1
  funext z
  show (f z == true) = f z
  cases f z <;> rfl
theorem sp_lhas (g : GO G) (u : Bool) : ∀ (n : Nat) (v : Vv), OkP n v → ∀ {A : Around} {H F : AH} {a : AV} {Q : AV → AH → Prop}, Ar (n + 1) A → RP F v a → Le F H → (∀ H', Keep [] H H' → Q (.bool (hn u v)) H') → CC G A 643 [a, .bool u] Q H := by
  intro n
  induction n using Nat.strongRecOn with
  | ind n ih =>
    intro v ok A H F a Q ar r lH h
    refine go2 g ar (fx643 g) rfl ?_
    intro A env ar eo hsc
    have hh : (∃ x i, v = .null ∧ a = .ref x ∧ F x = some (.list [.str "NULL", .ref i, .none])) ∨ ∃ k xs nm x i nmv avs, v = .vec k xs nm ∧ a = .ref x ∧ F x = some (.list [.str k.s, .ref i, nmv]) ∧ F i = some (.list avs) ∧ RPN F nm nmv ∧ xs.length = avs.length ∧
        (k ≠ .ls → RVs F xs avs) ∧ (k = .ls → ∀ (j : Nat) v a, xs[j]? = some v → avs[j]? = some a → RP F v a) := by
      cases r with
      | null ex ei => exact .inl ⟨_, _, rfl, rfl, ex⟩
      | vec hk ex ei rn hx => exact .inr ⟨_, _, _, _, _, _, _, rfl, rfl, ex, ei, rn, hx.1, fun _ => hx, fun q => absurd q hk⟩
      | list ex ei rn hl hx => exact .inr ⟨_, _, _, _, _, _, _, rfl, rfl, ex, ei, rn, hl, fun q => absurd rfl q, fun _ => hx⟩
    rcases hh with ⟨x, i, rfl, rfl, ex⟩ | ⟨k, xs, nm, x, i, nmv, avs, rfl, rfl, ex, ei, rn, hl, hx1, hx2⟩
    · have ex' := lH _ _ ex
      tm_at "w"
      exact h _ .refl
    · have ex' := lH _ _ ex
      have ei' := lH _ _ ei
      have hz := ok.len
      tm_at "w"
      refine ite_dec (fun q => absurd q (knull k)) (fun _ => ?_)
      cases rn with
      | some eln =>
        tm_at "w"
        exact h _ .refl
      | none =>
        simp only [hn, Option.isSome_none, Bool.false_or] at h
        tm_at "w"
        rw [klist]
        by_cases hk : k = .ls
        · subst hk
          rw [decide_eq_true rfl]
          cases u with
          | false =>
            tm_at "w"
            exact h _ .refl
          | true =>
            obtain ⟨m, rfl, hok⟩ := ok.ls
            simp only [decide_true, Bool.true_and] at h
            tm_at "w"
            refine comp_map [("unfold", .bool true)] [] (fun _ => True) (fun j w _ => ∀ z, xs[j]? = some z → w = .bool (hn true z)) (.list ei') hsc rfl ?_ .nil (fun H' k _ => k.le _ _ ei') trivial (fun _ _ _ _ _ => trivial) (fun _ _ _ _ _ h => h) (by lia) ?_ ?_
            · intro p hp
              rw [List.mem_singleton] at hp
              subst hp
              tm_at "look"
            · intro D j b cenv σ' nD aD eo hsc hj hb k3 _ hc Po hPo
              obtain ⟨z, ez⟩ := list_at_len hl hb
              have hu := hc _ (List.mem_singleton.mpr rfl)
              dsimp only at hu
              have l3 : Le F σ'.H := le_pure lH k3
              tm_at "w"
              refine (ih m (by lia) z (hok z (List.mem_of_getElem? ez)) (ar.le (by lia)) (hx2 rfl j z b ez hb) l3 fun H' k' => ?_).cv
              refine hPo _ _ ⟨k', trivial, fun z' ez' => by rw [ez] at ez'; cases ez'; rfl, fun p hp => ?_⟩
              rw [List.mem_singleton] at hp
              subst hp
              tm_at "look"
            · intro D H' ys nD k' _ eD hn' hy
              have hys : ys = xs.map fun z => .bool (hn true z) := eq_map_of (hn'.trans hl.symm) fun i u z e1 e2 => hy i u e1 z e2
              refine c_inL eD rfl (fun y hy' => ?_) ?_
              · rw [hys] at hy'
                obtain ⟨z, _, rfl⟩ := List.mem_map.mp hy'
                rfl
              · rw [bools_any hys, ← hns_any]
                tm_at "w"
                exact h _ k'
        · rw [decide_eq_false hk] at h ⊢
          tm_at "w"
          have := h _ .refl
          simpa using this
end
section
variable {G : Md} {A : Around} {H F : AH} {Q : AV → AH → Prop}
/-- a leaf as it stands in found -/
structure LeafR (F : AH) (cs : Addr) (lf : Leaf) (av : AV) : Prop where
  ex : ∃ t a tl sl pre c, av = .ref t ∧ F t = some (.tup [.str lf.k.s, a, .ref tl, .str lf.name, .ref sl]) ∧ LI F lf.k lf.x a ∧ F tl = some (.list (lf.tags.map .str)) ∧ F sl = some (.list (pre ++ [.ref c])) ∧ ((lf.sp = none ∧ c = cs) ∨ ∃ f b : Nat, lf.sp = some (f, b) ∧ F c = some (.list [.int f, .int b]))
theorem LeafR.mono {F F' : AH} {cs : Addr} {lf : Leaf} {av : AV} (h : LeafR F cs lf av) (l : Le F F') : LeafR F' cs lf av :=
  let ⟨t, a, tl, sl, pre, c, e, h1, h2, h3, h4, h5⟩ := h.ex
  ⟨t, a, tl, sl, pre, c, e, l _ _ h1, h2.mono l, l _ _ h3, l _ _ h4, h5.imp id fun ⟨f, b, e, h⟩ => ⟨f, b, e, l _ _ h⟩⟩
theorem LeafR.close {F F' : AH} {cs sp : Addr} {lf : Leaf} {av : AV} {f b : Nat} (h : LeafR F sp lf av) (l : Le F F') (e : F' sp = some (.list [.int f, .int b])) : LeafR F' cs (close f b lf) av := by
  obtain ⟨t, a, tl, sl, pre, c, ea, h1, h2, h3, h4, h5⟩ := h.ex
  refine ⟨t, a, tl, sl, pre, c, ea, l _ _ h1, h2.mono l, l _ _ h3, l _ _ h4, .inr ?_⟩
  rcases h5 with ⟨q, rfl⟩ | ⟨f', b', q, h⟩
  · exact ⟨f, b, by simp [Mine.close, q], e⟩
  · exact ⟨f', b', by simp [Mine.close, q], l _ _ h⟩
noncomputable def LeafRs (F : AH) (cs : Addr) (ls : List Leaf) (as : List AV) : Prop := ls.length = as.length ∧ ∀ (j : Nat) l a, ls[j]? = some l → as[j]? = some a → LeafR F cs l a
theorem LeafRs.mono {F F' : AH} {cs : Addr} {ls : List Leaf} {as : List AV} (h : LeafRs F cs ls as) (l : Le F F') : LeafRs F' cs ls as := ⟨h.1, fun j x a e1 e2 => (h.2 j x a e1 e2).mono l⟩
theorem LeafRs.nil {F : AH} {cs : Addr} : LeafRs F cs [] [] := ⟨rfl, fun j l a e => by simp at e⟩
theorem LeafRs.app {F : AH} {cs : Addr} {ls ms : List Leaf} {as bs : List AV} (h : LeafRs F cs ls as) (k : LeafRs F cs ms bs) : LeafRs F cs (ls ++ ms) (as ++ bs) := by
  refine ⟨by simp [h.1, k.1], fun j u b e1 e2 => ?_⟩
  by_cases q : j < ls.length
  · rw [List.getElem?_append_left q] at e1
    rw [List.getElem?_append_left (by rw [← h.1]; exact q)] at e2
    exact h.2 j u b e1 e2
  · rw [List.getElem?_append_right (by lia)] at e1
    rw [List.getElem?_append_right (by rw [← h.1]; lia), ← h.1] at e2
    exact k.2 _ u b e1 e2
theorem LeafRs.one {F : AH} {cs : Addr} {l : Leaf} {a : AV} (r : LeafR F cs l a) : LeafRs F cs [l] [a] := ⟨rfl, fun j v b e1 e2 => by
  match j with
  | 0 => cases e1; cases e2; exact r
  | j + 1 => simp at e1⟩
theorem LeafRs.close {F F' : AH} {cs sp : Addr} {ls : List Leaf} {as : List AV} {f b : Nat} (h : LeafRs F sp ls as) (l : Le F F') (e : F' sp = some (.list [.int f, .int b])) : LeafRs F' cs (ls.map (Mine.close f b)) as := by
  refine ⟨by simp [h.1], fun j x a e1 e2 => ?_⟩
  rw [List.getElem?_map] at e1
  obtain ⟨y, ey, rfl⟩ := Option.map_eq_some_iff.mp e1
  exact (h.2 j y a ey e2).close l e
/-- the name of an item -/
theorem lname_e {env : Env} {σ : St} {K : AV → St → Prop} (eo : EnvOK env) {F : AH} {xs : List Vv} {nm : Option (List (Option Str))} {nv : AV} {j : Nat} {s : Str} (m1 : σ.m "names" = some nv) (m2 : σ.m "at" = some (.int j)) (rn : RPN F nm nv) (l : Le F σ.H) (hj : j < xs.length) (hz : xs.length ≤ 3) (hnm : OkN xs nm) (e : (nmL xs nm)[j]? = some s) (h : K (.str s) σ)
    {p1 p2 p3 p4 p5 p6 p7 p8 p9 p10 p11 p12 p13 p14 : Pos} {k1 k2 k3 : Nat} : WE G A env (.IfExp (.BoolOp .Or [.Compare (.Name "names" p1) [.Is] [.Constant .none k1 p2] p3, .Compare (.Subscript (.Name "names" p4) (.Name "at" p5) p6) [.Is] [.Constant .none k2 p7] p8] p9) (.Constant (.str "") k3 p10) (.Subscript (.Name "names" p11) (.Name "at" p12) p13) p14) K σ := by
  obtain ⟨H, m⟩ := σ
  cases rn with
  | none =>
    have : s = "" := by
      simp only [nmL, List.getElem?_map] at e
      obtain ⟨_, _, rfl⟩ := Option.map_eq_some_iff.mp e
      rfl
    subst this
    tm_at "w"
    exact h
  | @some nms ln eln =>
    have eln' := l _ _ eln
    have hl : nms.length = xs.length := hnm.1
    have eo : nms[j]? = some (nms[j]'(by lia)) := List.getElem?_eq_getElem _
    generalize nms[j]'(by lia) = o at eo
    simp only [nmL, List.getElem?_map, eo, Option.map_some, Option.some.injEq] at e
    tm_at "w"
    refine sub_listJ (x := ostr o) eln' (by lia) (by first | exact eo | exact get_map eo | simp [eo]) ?_
    cases o with
    | none =>
      dsimp only [ostr]
      tm_at "w"
      subst e
      exact h
    | some s' =>
      dsimp only [ostr]
      tm_at "w"
      refine sub_listJ (x := .str s') eln' (by lia) (by first | exact eo | exact get_map eo | simp [eo, ostr]) ?_
      subst e
      exact h
end
section
variable {G : Md} {A : Around} {H F : AH} {Q : AV → AH → Prop}
/-- the leaves of the first items -/
noncomputable def lvI (u : Bool) (k : Kd) (xs : List Vv) (ns : List Str) (tags : List Str) (at_ : Nat) : List Leaf := if k = .ls ∧ u = true then lvs u xs ns tags at_ else (xs.zip ns).map fun p => ⟨k, p.1, tags, p.2, .none⟩
theorem sp_leaves (g : GO G) (u : Bool) : ∀ (n : Nat) (v : Vv), n ≤ 3 → OkP n v → ∀ {A : Around} {H : AH} {a : AV} {S : List Addr} {tl sl fl cs : Addr} {tags : List Str} {pre fs : List AV} {Q : AV → AH → Prop}, Ar (n + 3) A → RP (cut H S) v a →
    cut H S tl = some (.list (tags.map .str)) → cut H S sl = some (.list (pre ++ [.ref cs])) → fl ∈ S → Alive S H → H fl = some (.list fs) → tags.length + n ≤ 8 → pre.length + n ≤ 10 → fs.length + pw n ≤ 1000 →
    (∀ H' new, Keep [fl] H H' → H' fl = some (.list (fs ++ new)) → LeafRs (cut H' S) cs (lv u v tags fs.length) new → Q .none H') → CC G A 619 [a, .ref tl, .ref sl, .bool u, .ref fl] Q H := by
  intro n
  induction n using Nat.strongRecOn with
  | ind n ih =>
    intro v n3 ok A H a S tl sl fl cs tags pre fs Q ar r htl hsl fS al hfl tz pz fz h
    refine go5 g ar (fx619 g) rfl ?_
    intro A env ar eo hsc
    have l0 := cut_le H S
    have hh : (∃ x i, v = .null ∧ a = .ref x ∧ cut H S x = some (.list [.str "NULL", .ref i, .none])) ∨ ∃ k xs nm x i nmv avs, v = .vec k xs nm ∧ a = .ref x ∧ cut H S x = some (.list [.str k.s, .ref i, nmv]) ∧ cut H S i = some (.list avs) ∧ RPN (cut H S) nm nmv ∧ xs.length = avs.length ∧
        (k ≠ .ls → RVs (cut H S) xs avs) ∧ (k = .ls → ∀ (j : Nat) v a, xs[j]? = some v → avs[j]? = some a → RP (cut H S) v a) := by
      cases r with
      | null ex ei => exact .inl ⟨_, _, rfl, rfl, ex⟩
      | vec hk ex ei rn hx => exact .inr ⟨_, _, _, _, _, _, _, rfl, rfl, ex, ei, rn, hx.1, fun _ => hx, fun q => absurd q hk⟩
      | list ex ei rn hl hx => exact .inr ⟨_, _, _, _, _, _, _, rfl, rfl, ex, ei, rn, hl, fun q => absurd rfl q, fun _ => hx⟩
    rcases hh with ⟨x, i, rfl, rfl, ex⟩ | ⟨k, xs, nm, x, i, nmv, avs, rfl, rfl, ex, ei, rn, hl, hx1, hx2⟩
    · have ex' := l0 _ _ ex
      tm_at "w"
      exact h _ [] .refl (by simpa using hfl) .nil
    · have ex' := l0 _ _ ex
      have ei' := l0 _ _ ei
      have hz := ok.len
      have hnm := ok.nm
      have nl := nmL_len hnm
      tm_at "w"
      refine ite_dec (fun q => absurd q (knull k)) (fun _ => ?_)
      tm_at "w"
      refine cv_len ei' (by lia) ?_
      tm_at "w"
      refine cv_range fun rg nrg => ?_
      have kr : Keep [] H (upd H rg (.rng avs.length)) := Keep.refl.new nrg
      tm_at "w"
      refine for_rng (fun j σ' => Keep [fl] H σ'.H ∧ (∃ new, σ'.H fl = some (.list (fs ++ new)) ∧ LeafRs (cut σ'.H S) cs (lvI u k (xs.take j) ((nmL xs nm).take j) tags fs.length) new) ∧ σ'.m "kind" = some (.str k.s) ∧ σ'.m "items" = some (.ref i) ∧ σ'.m "names" = some nmv ∧ σ'.m "tags" = some (.ref tl) ∧ σ'.m "spans" = some (.ref sl) ∧ σ'.m "unfold" = some (.bool u) ∧ σ'.m "found" = some (.ref fl)) (upd_same _ _ _) (by lia) ⟨kr.pure, ⟨[], by simpa using kr.le _ _ hfl, by simp [lvI, lvs]; exact .nil⟩, by tm_at "look", by tm_at "look", by tm_at "look", by tm_at "look", by tm_at "look", by tm_at "look", by tm_at "look"⟩ ?_ ?_
      · rintro j Po hPo ⟨H2, m⟩ hj ⟨k2, ⟨new, ef, rf⟩, m1, m2, m3, m4, m5, m6, m7⟩
        have ej : xs[j]? = some xs[j] := List.getElem?_eq_getElem (by lia)
        have en : (nmL xs nm)[j]? = some (nmL xs nm)[j] := List.getElem?_eq_getElem (by lia)
        have ea : avs[j]? = some avs[j] := List.getElem?_eq_getElem hj
        generalize hx : xs[j] = x0 at ej
        generalize hs : (nmL xs nm)[j] = s0 at en
        generalize ha : avs[j] = a0 at ea
        have S2 : Le (cut H S) (cut H2 S) := cut_keep (k2.mono fun a ha => by rw [List.mem_singleton] at ha; rw [ha]; exact fS)
        have l2 : Le (cut H S) H2 := S2.trans (cut_le _ _)
        have al2 : Alive S H2 := k2.al al fun a ha => by rw [List.mem_singleton] at ha; rw [ha, ef]; exact Option.some_ne_none _
        tm_at "st"
        tm_at "st"
        tm_at "st"
        refine lname_e eo (by tm_at "look") (by tm_at "look") rn l2 (by lia) hz hnm en ?_
        tm_at "w"
        rw [klist]
        have ei2 := l2 _ _ ei
        by_cases hu : u = true ∧ k = .ls
        · obtain ⟨rfl, rfl⟩ := hu
          obtain ⟨m', rfl, hok⟩ := ok.ls
          have okx := hok x0 (List.mem_of_getElem? ej)
          simp only [pw] at fz
          have newl : new.length ≤ 2 * pw m' := by
            rw [← rf.1]
            simp only [lvI, and_self, if_true]
            rw [lvs_len true m' _ _ _ _ (fun y hy => hok y (List.mem_of_mem_take hy)) (by rw [List.length_take, List.length_take, nl])]
            have := cnts_le (u := true) (b := pw m') (xs.take j) fun y hy => cnt_le m' y (hok y (List.mem_of_mem_take hy))
            have h2 : (xs.take j).length ≤ 2 := by rw [List.length_take]; lia
            have := Nat.mul_le_mul_right (pw m') h2
            lia
          have lenE : (fs ++ new).length = fs.length + cnts true (xs.take j) := by
            rw [List.length_append, ← rf.1]
            simp only [lvI, and_self, if_true]
            rw [lvs_len true m' _ _ _ _ (fun y hy => hok y (List.mem_of_mem_take hy)) (by rw [List.length_take, List.length_take, nl])]
          have fin : ∀ (H3 : AH) (nw : List AV) (m'' : Str → Option AV), Keep [fl] H H3 → H3 fl = some (.list (fs ++ new ++ nw)) → LeafRs (cut H3 S) cs (lvI true .ls (xs.take j) ((nmL xs nm).take j) tags fs.length) new → LeafRs (cut H3 S) cs (lv1 true x0 s0 tags (fs ++ new).length) nw →
              m'' "kind" = some (.str Kd.ls.s) → m'' "items" = some (.ref i) → m'' "names" = some nmv → m'' "tags" = some (.ref tl) → m'' "spans" = some (.ref sl) → m'' "unfold" = some (.bool true) → m'' "found" = some (.ref fl) →
              Keep [fl] H H3 ∧ (∃ new, H3 fl = some (.list (fs ++ new)) ∧ LeafRs (cut H3 S) cs (lvI true .ls (xs.take (j + 1)) ((nmL xs nm).take (j + 1)) tags fs.length) new) ∧ m'' "kind" = some (.str Kd.ls.s) ∧ m'' "items" = some (.ref i) ∧ m'' "names" = some nmv ∧ m'' "tags" = some (.ref tl) ∧ m'' "spans" = some (.ref sl) ∧ m'' "unfold" = some (.bool true) ∧ m'' "found" = some (.ref fl) := by
            intro H3 nw m'' k3 e3 r3 r4 q1 q2 q3 q4 q5 q6 q7
            refine ⟨k3, ⟨new ++ nw, by rw [← List.append_assoc]; exact e3, ?_⟩, q1, q2, q3, q4, q5, q6, q7⟩
            rw [take_snoc ej, take_snoc en]
            have : lvI true .ls (xs.take j ++ [x0]) ((nmL xs nm).take j ++ [s0]) tags fs.length = lvI true .ls (xs.take j) ((nmL xs nm).take j) tags fs.length ++ lv1 true x0 s0 tags (fs ++ new).length := by
              rw [lenE]
              simp only [lvI, and_self, if_true]
              exact lvs_snoc true _ _ _ _ _ _ (by rw [List.length_take, List.length_take, nl])
            rw [this]
            exact r3.app r4
          rw [decide_eq_true rfl]
          tm_at "w"
          refine ite_dec (fun q => ?_) (fun q => ?_)
          · have q' : s0 = S0 := q
            subst q'
            tm_at "w"
            refine sub_listJ (x := a0) ei2 (by lia) (by first | exact ea | exact get_map ea | simp [ea]) ?_
            tm_at "w"
            refine (ih m' (by lia) x0 (by lia) okx (ar.le (by lia)) ((hx2 rfl j x0 a0 ej ea).mono S2) (S2 _ _ htl) (S2 _ _ hsl) fS al2 ef (by lia) (by lia) (by rw [List.length_append]; lia) fun H3 nw k3 e3 r3 => ?_).cv
            tm_at "w"
            refine fin H3 nw _ (k2.trans k3) e3 (rf.mono (cut_keep (k3.mono fun a ha => by rw [List.mem_singleton] at ha; rw [ha]; exact fS))) ?_ (by tm_at "look") (by tm_at "look") (by tm_at "look") (by tm_at "look") (by tm_at "look") (by tm_at "look") (by tm_at "look")
            rw [lv1, if_pos rfl]; exact r3
          · have q' : ¬ s0 = S0 := q
            tm_at "w"
            refine cv_len ef (by rw [List.length_append]; lia) ?_
            tm_at "w"
            rename_i sp nsp
            have ef3 := new_get (o := .list [.int ((fs ++ new).length : Nat), .int 0]) ef nsp
            have ei3 := new_get (o := .list [.int ((fs ++ new).length : Nat), .int 0]) ei2 nsp
            refine sub_listJ (x := a0) ei3 (by lia) (by first | exact ea | exact get_map ea | simp [ea]) ?_
            tm_at "w"
            rename_i b1 nb1
            have k3 : Keep [] H2 (upd (upd H2 sp (.list [.int ((fs ++ new).length : Nat), .int 0])) b1 (.list [.str s0])) := (Keep.refl.new nsp).new nb1
            refine b_addl (k3.le _ _ (l2 _ _ htl)) (upd_same _ _ _) (by rw [List.length_map, sizeLine_eq]; simp; lia) fun tl' ntl' => ?_
            tm_at "w"
            rename_i b2 nb2
            have k4 := (k3.new (o := .list (tags.map AV.str ++ [.str s0])) ntl').new (o := .list [.ref sp]) nb2
            refine b_addl (k4.le _ _ (l2 _ _ hsl)) (upd_same _ _ _) (by rw [List.length_append, sizeLine_eq]; simp; lia) fun sl' nsl' => ?_
            have k5 := k4.new (o := .list (pre ++ [AV.ref cs] ++ [.ref sp])) nsl'
            tm_at "w"
            have hsp5 : (upd (upd (upd (upd (upd H2 sp (.list [.int ((fs ++ new).length : Nat), .int 0])) b1 (.list [.str s0])) tl' (.list (tags.map AV.str ++ [.str s0]))) b2 (.list [.ref sp])) sl' (.list (pre ++ [AV.ref cs] ++ [.ref sp]))) sp = some (.list [.int ((fs ++ new).length : Nat), .int 0]) := by tm_at "get"
            have htl5 : (upd (upd (upd (upd (upd H2 sp (.list [.int ((fs ++ new).length : Nat), .int 0])) b1 (.list [.str s0])) tl' (.list (tags.map AV.str ++ [.str s0]))) b2 (.list [.ref sp])) sl' (.list (pre ++ [AV.ref cs] ++ [.ref sp]))) tl' = some (.list (tags.map AV.str ++ [.str s0])) := by tm_at "get"
            have hsl5 : (upd (upd (upd (upd (upd H2 sp (.list [.int ((fs ++ new).length : Nat), .int 0])) b1 (.list [.str s0])) tl' (.list (tags.map AV.str ++ [.str s0]))) b2 (.list [.ref sp])) sl' (.list (pre ++ [AV.ref cs] ++ [.ref sp]))) sl' = some (.list (pre ++ [AV.ref cs] ++ [.ref sp])) := upd_same _ _ _
            have tsp : tl' ≠ sp := Ne.symm (keep_ne (new_get (upd_same _ _ _) nb1) ntl')
            have ssp : sl' ≠ sp := Ne.symm (keep_ne (o := .list [.int ((fs ++ new).length : Nat), .int 0]) (by tm_at "get") nsl')
            have ntl2 := k3.fresh (S := []) ntl'
            have nsl2 := k4.fresh (S := []) nsl'
            have ef5 := k5.le _ _ ef
            generalize (upd (upd (upd (upd (upd H2 sp (.list [.int ((fs ++ new).length : Nat), .int 0])) b1 (.list [.str s0])) tl' (.list (tags.map AV.str ++ [.str s0]))) b2 (.list [.ref sp])) sl' (.list (pre ++ [AV.ref cs] ++ [.ref sp]))) = H5 at *
            have c5 : Le (cut H S) (cut H5 (sp :: S)) := (S2.trans (cut_new' nsp)).trans (cut_keep k5.pure)
            have spS := al2.nin nsp
            have al5 : Alive (sp :: S) H5 := fun b hb => by
              rcases List.mem_cons.mp hb with rfl | hb
              · rw [hsp5]; exact Option.some_ne_none _
              · exact k5.alive (S := []) (al2 b hb)
            refine (ih m' (by lia) x0 (by lia) okx (S := sp :: S) (tags := tags ++ [s0]) (pre := pre ++ [AV.ref cs]) (cs := sp) (ar.le (by lia)) ((hx2 rfl j x0 a0 ej ea).mono c5) (cut_at (by rw [htl5, List.map_append]; rfl) (by simp [tsp]; exact al2.nin ntl2)) (cut_at hsl5 (by simp [ssp]; exact al2.nin nsl2)) (.tail _ fS) al5 ef5 (by rw [List.length_append]; simp; lia) (by rw [List.length_append]; simp; lia) (by rw [List.length_append]; lia) fun H6 nw k6 e6 r6 => ?_).cv
            have fsp : fl ≠ sp := keep_ne ef nsp
            have hsp6 := k6.get hsp5 (by simp; exact Ne.symm fsp)
            have nwl : nw.length = cnt true x0 := by rw [← r6.1]; exact lv_len true m' x0 _ _ okx
            have nwz := cnt_le (u := true) m' x0 okx
            tm_at "w"
            refine cv_len e6 (by rw [List.length_append, List.length_append]; lia) ?_
            tm_at "w"
            refine seti_mk (k := 1) hsp6 (by simp) (by simp) ?_
            dsimp only [List.set_cons_succ, List.set_cons_zero]
            have k06 : Keep [fl] H H6 := k2.trans (k5.pure.trans k6)
            have nsp0 : H sp = none := k2.fresh1 nsp (by simp; exact Ne.symm fsp)
            have c6 : Le (cut H6 (sp :: S)) (cut (upd H6 sp (.list [.int ((fs ++ new).length : Nat), .int ((fs ++ new ++ nw).length : Nat)])) S) := fun b ob e => by
              have hb : b ∉ sp :: S := fun z => by rw [cut_in z] at e; cases e
              have e' := cut_le _ _ _ _ e
              exact cut_at ((upd_ne _ _ fun z => hb (by rw [z]; exact .head _)).trans e') fun z => hb (.tail _ z)
            have c26 : Le (cut H2 S) (cut (upd H6 sp (.list [.int ((fs ++ new).length : Nat), .int ((fs ++ new ++ nw).length : Nat)])) S) := ((cut_new' nsp).trans (cut_keep k5.pure)).trans ((cut_keep (k6.mono fun a ha => by rw [List.mem_singleton] at ha; rw [ha]; exact .tail _ fS)).trans c6)
            tm_at "w"
            refine fin _ nw _ (k06.own nsp0) ((upd_ne _ _ fsp).trans e6) (rf.mono c26) ?_ (by tm_at "look") (by tm_at "look") (by tm_at "look") (by tm_at "look") (by tm_at "look") (by tm_at "look") (by tm_at "look")
            rw [lv1, if_neg q']
            have := r6.close (cs := cs) (f := (fs ++ new).length) (b := (fs ++ new ++ nw).length) c6 (cut_at (upd_same _ _ _) spS)
            have el : (fs ++ new ++ nw).length = (fs ++ new).length + cnt true x0 := by rw [List.length_append (bs := nw), nwl]
            rw [show Mine.close (fs ++ new).length ((fs ++ new).length + cnt true x0) = Mine.close (fs ++ new).length (fs ++ new ++ nw).length by rw [el]]
            exact this
        · have hb : (decide (k = .ls) && u) = false := by
            cases u <;> simp at hu ⊢; exact hu
          have pwn := pw_pos n
          have newl : new.length ≤ 3 := by
            rw [← rf.1]
            have hu' : ¬ (k = .ls ∧ u = true) := fun z => hu ⟨z.2, z.1⟩
            simp only [lvI, hu', if_false, List.length_map, List.length_zip, List.length_take]
            lia
          have li : LI (cut H S) k x0 a0 := by
            unfold LI
            by_cases hk : k = .ls
            · rw [if_pos hk]
              subst hk
              obtain ⟨m', rfl, hok⟩ := ok.ls
              exact ⟨hx2 rfl j x0 a0 ej ea, (hok x0 (List.mem_of_getElem? ej)).le (by lia)⟩
            · rw [if_neg hk]
              exact ⟨(hx1 hk).2 j x0 a0 ej ea, ok.it hk x0 (List.mem_of_getElem? ej)⟩
          have fin : ∀ (t : Addr) (m'' : Str → Option AV), H2 t = none → m'' "kind" = some (.str k.s) → m'' "items" = some (.ref i) → m'' "names" = some nmv → m'' "tags" = some (.ref tl) → m'' "spans" = some (.ref sl) → m'' "unfold" = some (.bool u) → m'' "found" = some (.ref fl) →
              (fun H3 => Keep [fl] H H3 ∧ (∃ new, H3 fl = some (.list (fs ++ new)) ∧ LeafRs (cut H3 S) cs (lvI u k (xs.take (j + 1)) ((nmL xs nm).take (j + 1)) tags fs.length) new) ∧ m'' "kind" = some (.str k.s) ∧ m'' "items" = some (.ref i) ∧ m'' "names" = some nmv ∧ m'' "tags" = some (.ref tl) ∧ m'' "spans" = some (.ref sl) ∧ m'' "unfold" = some (.bool u) ∧ m'' "found" = some (.ref fl)) (upd (upd H2 t (.tup [.str k.s, a0, .ref tl, .str s0, .ref sl])) fl (.list (fs ++ new ++ [.ref t]))) := by
            intro t m'' nt q1 q2 q3 q4 q5 q6 q7
            have flt : fl ≠ t := keep_ne ef nt
            have c3 : Le (cut H2 S) (cut (upd (upd H2 t (.tup [.str k.s, a0, .ref tl, .str s0, .ref sl])) fl (.list (fs ++ new ++ [.ref t]))) S) := by rw [cut_upd_in fS]; exact cut_new nt
            refine ⟨(k2.trans (Keep.refl.new nt)).at (by simp), ⟨new ++ [.ref t], by rw [upd_same, List.append_assoc], ?_⟩, q1, q2, q3, q4, q5, q6, q7⟩
            rw [take_snoc ej, take_snoc en]
            have hu' : ¬ (k = .ls ∧ u = true) := fun z => hu ⟨z.2, z.1⟩
            have : lvI u k (xs.take j ++ [x0]) ((nmL xs nm).take j ++ [s0]) tags fs.length = lvI u k (xs.take j) ((nmL xs nm).take j) tags fs.length ++ [⟨k, x0, tags, s0, .none⟩] := by
              simp only [lvI, hu', if_false]
              rw [List.zip_append (by rw [List.length_take, List.length_take, nl]), List.map_append]; rfl
            rw [this]
            refine (rf.mono c3).app (.one ⟨t, a0, tl, sl, pre, cs, rfl, cut_at ((upd_ne _ _ (Ne.symm flt)).trans (upd_same _ _ _)) (al2.nin nt), (li.mono S2).mono c3, c3 _ _ (S2 _ _ htl), c3 _ _ (S2 _ _ hsl), .inl ⟨rfl, rfl⟩⟩)
          by_cases hk : k = .ls
          · have hu0 : u = false := by cases u <;> simp_all
            subst hu0
            rw [decide_eq_true hk]
            tm_at "w"
            refine ⟨⟨_, ef⟩, ?_⟩
            tm_at "w"
            refine sub_listJ (x := a0) ei2 (by lia) (by first | exact ea | exact get_map ea | simp [ea]) ?_
            tm_at "w"
            rename_i t nt
            refine ⟨_, new_get ef nt, by rw [List.length_append, sizeLine_eq]; lia, ?_⟩
            tm_at "w"
            exact fin t _ nt (by tm_at "look") (by tm_at "look") (by tm_at "look") (by tm_at "look") (by tm_at "look") (by tm_at "look") (by tm_at "look")
          · rw [decide_eq_false hk]
            tm_at "w"
            refine ⟨⟨_, ef⟩, ?_⟩
            tm_at "w"
            refine sub_listJ (x := a0) ei2 (by lia) (by first | exact ea | exact get_map ea | simp [ea]) ?_
            tm_at "w"
            rename_i t nt
            refine ⟨_, new_get ef nt, by rw [List.length_append, sizeLine_eq]; lia, ?_⟩
            tm_at "w"
            exact fin t _ nt (by tm_at "look") (by tm_at "look") (by tm_at "look") (by tm_at "look") (by tm_at "look") (by tm_at "look") (by tm_at "look")
      · rintro ⟨H2, m⟩ ⟨k2, ⟨new, ef, rf⟩, m1, m2, m3, m4, m5, m6, m7⟩
        rw [← hl, List.take_of_length_le (Nat.le_refl _), List.take_of_length_le (by lia)] at rf
        tm_at "w"
        refine h _ new k2 ef ?_
        simpa [lv, lvI] using rf
end
section
variable {G : Md} {A : Around} {H F : AH} {Q : AV → AH → Prop}
theorem join_len (xs : List Str) : (join xs).length ≤ (xs.map (·.length)).sum + xs.length := by
  unfold join Txt.join
  rw [StrLaws.glued_eq_join]
  have := StrLaws.join_length_le "." xs
  rw [dot_len, Nat.mul_one] at this
  exact this
theorem sum_short {xs : List Str} (h : ∀ t ∈ xs, Str.length t ≤ 1) : (xs.map (·.length)).sum ≤ xs.length := by
  induction xs with
  | nil => simp
  | cons x xs ih =>
    have h1 := h x (.head _)
    have h2 := ih fun t ht => h t (.tail _ ht)
    simp only [List.map_cons, List.sum_cons, List.length_cons]
    lia
theorem sp_lname (g : GO G) (ar : Ar 1 A) {cs : Addr} {lf : Leaf} {av : AV} {at_ : Nat} (r : LeafR F cs lf av) (l : Le F H) (hat : at_ ≤ 1000) (ht : lf.tags.length ≤ 10) (hs : ∀ t ∈ lf.tags, Str.length t ≤ 1) (hn : lf.name.length ≤ 1) (hsp : ∃ f b, lf.sp = some (f, b) ∧ f ≤ at_)
    (h : ∀ H', Keep [] H H' → Q (.str (lname lf at_)) H') : CC G A 650 [av, .int at_] Q H := by
  refine go2 g ar (fx650 g) rfl ?_
  intro A env ar eo hsc
  obtain ⟨t, a, tl, sl, pre, c, rfl, et, li, etl, esl, hc⟩ := r.ex
  obtain ⟨f, b, esp, fa⟩ := hsp
  have ec : F c = some (.list [.int f, .int b]) := by
    rcases hc with ⟨q, _⟩ | ⟨f', b', q, e⟩
    · rw [esp] at q; cases q
    · rw [esp] at q; cases q; exact e
  have sm := sum_short hs
  tm_at "w"
  tm_at "slTup"
  tm_at "w"
  refine ⟨t, [.str lf.k.s, a, .ref tl, .str lf.name, .ref sl], 2, rfl, rfl, by decide, by simp, l _ _ et, by rw [sizeLine_eq]; simp, fun t2 nt2 => ?_⟩
  rw [show List.drop 2 [AV.str lf.k.s, a, .ref tl, .str lf.name, .ref sl] = [.ref tl, .str lf.name, .ref sl] from rfl]
  have k1 : Keep [] H (upd H t2 (.tup [.ref tl, .str lf.name, .ref sl])) := Keep.refl.new nt2
  have etl1 := k1.le _ _ (l _ _ etl)
  have esl1 := k1.le _ _ (l _ _ esl)
  have ec1 := k1.le _ _ (l _ _ ec)
  tm_at "w"
  refine ite_dec (fun q => ?_) (fun q => ?_)
  · have q' : lf.name ≠ S0 := q
    tm_at "w"
    refine ⟨.str _, ?_⟩
    tm_at "w"
    rename_i b1 nb1
    refine b_addl (new_get etl1 nb1) (upd_same _ _ _) (by rw [List.length_map, sizeLine_eq]; simp; lia) fun l2 nl2 => ?_
    tm_at "w"
    refine cv_join (xs := lf.tags ++ [lf.name]) ((upd_same _ _ _).trans (by rw [List.map_append]; rfl)) ?_ ?_
    · rw [dot_len, List.map_append, List.sum_append, List.length_append]
      simp only [List.map_cons, List.map_nil, List.sum_cons, List.sum_nil, List.length_cons, List.length_nil]
      lia
    tm_at "w"
    have en : lname lf at_ = join (lf.tags ++ [lf.name]) := by rw [lname, if_pos q']
    rw [en] at h
    exact h _ ((k1.new nb1).new nl2)
  · have q' : lf.name = S0 := by simpa using q
    have q2 : ¬ lf.name ≠ S0 := fun z => z q'
    tm_at "w"
    rename_i e1 ne1
    have etl2 := new_get (o := .list []) etl1 ne1
    refine c_eqL_nil etl2 (upd_same _ _ _) (by have := ar.un; lia) ?_
    refine ⟨_, rfl, ite_dec (fun q3 => ?_) (fun q3 => ?_)⟩
    · have q4 : lf.tags = [] := by simpa using q3
      tm_at "w"
      have en : lname lf at_ = S0 := by rw [lname, if_neg q2, if_pos q4]
      rw [en] at h
      exact h _ (k1.new ne1)
    · have q4 : ¬ lf.tags = [] := fun z => q3 (by rw [z]; rfl)
      have esl2 := new_get (o := .list []) esl1 ne1
      have ec2 := new_get (o := .list []) ec1 ne1
      have jl := join_len lf.tags
      tm_at "w"
      refine sub_negA (x := .ref c) esl2 (by decide) (by rw [List.length_append]; simp; lia) (by decide) ?_ ?_
      · rw [List.length_append]
        have : ((-1 : Int) + ((pre.length + [AV.ref c].length : Nat) : Int)).toNat = pre.length := by simp; lia
        rw [this]
        simp
      tm_at "w"
      refine ⟨.str _, ?_⟩
      tm_at "w"
      refine cv_join (xs := lf.tags) etl2 (by rw [dot_len]; lia) ?_
      tm_at "w"
      have hh := h _ (k1.new (o := .list []) ne1)
      rw [lname, if_neg q2, if_neg q4, esp] at hh
      dsimp only [Option.getD_some] at hh
      refine ite_dec (fun q5 => ?_) (fun q5 => ?_)
      · have q6 : 1 < b - f := by lia
        rw [if_pos q6] at hh
        have en : ((at_ : Int) - f + 1) = ((at_ - f + 1 : Nat) : Int) := by lia
        tm_at "w"
        rw [en]
        refine cv_str (nat_small (by lia)) ?_
        tm_at "w"
        have ln := natS_len (n := at_ - f + 1)
        refine b_adds ?_ ?_
        · show (join lf.tags).length + (natS (at_ - f + 1)).length ≤ _
          rw [sizeLine_eq]
          have : (natS (at_ - f + 1)).length ≤ 4 := by
            rcases Nat.lt_or_ge 1000 (at_ - f + 1) with z | z
            · have : at_ - f + 1 = 1001 := by lia
              rw [this]; decide +kernel
            · exact ln z
          lia
        · tm_at "w"
          exact hh
      · have q6 : ¬ 1 < b - f := by lia
        rw [if_neg q6] at hh
        tm_at "w"
        refine b_adds ?_ ?_
        · show (join lf.tags).length + Str.length "" ≤ _
          rw [show Str.length "" = 0 by decide +kernel, sizeLine_eq]
          lia
        · tm_at "w"
          exact hh
end
section
variable {G : Md} {A : Around} {H F : AH} {Q : AV → AH → Prop}
/-- at most n deep -/
noncomputable def Dp : Nat → Vv → Prop
  | 0, v => ∀ k xs nm, v ≠ .vec k xs nm
  | n + 1, v => ∀ k xs nm, v = .vec k xs nm → xs.length ≤ 1000 ∧ ∀ x ∈ xs, Dp n x
theorem flat_names (nm : List (Option Str)) : ∀ x ∈ nm.map ostr, flat x = true := fun x hx => by
  obtain ⟨o, _, rfl⟩ := List.mem_map.mp hx
  cases o <;> rfl
theorem sp_same (g : GO G) : ∀ (n : Nat) (v : Vv), Dp n v → ∀ {A : Around} {H F : AH} {a b : AV} {Q : AV → AH → Prop}, Ar (n + 6) A → RV F v a → RV F v b → Le F H → (∀ H', Keep [] H H' → Q (.bool true) H') → CC G A 655 [a, b] Q H := by
  intro n
  induction n using Nat.strongRecOn with
  | ind n ih =>
    intro v dp A H F a b Q ar ra rb l h
    refine go2 g ar (fx655 g) rfl ?_
    intro A env ar eo hsc
    have un := ar.un
    cases ra with
    | none =>
      cases rb
      tm_at "w"
      refine c_eqn ?_
      tm_at "w"
      exact h _ .refl
    | int i =>
      cases rb
      tm_at "w"
      refine isi_int g ?_
      tm_at "w"
      rename_i t nt
      refine is3_int g (upd_same _ _ _) ?_
      tm_at "w"
      exact h _ (Keep.refl.new nt)
    | str s =>
      cases rb
      tm_at "w"
      refine isi_str g ?_
      tm_at "w"
      rename_i t nt
      refine is3_str g (upd_same _ _ _) ?_
      tm_at "w"
      exact h _ (Keep.refl.new nt)
    | @dbl nn dd xa ea =>
      cases rb with
      | @dbl _ _ xb eb =>
      tm_at "w"
      refine isi_tup g (l _ _ ea) ?_
      tm_at "w"
      rename_i t nt
      refine is3_tup g (new_get (l _ _ ea) nt) (upd_same _ _ _) ?_
      tm_at "w"
      refine c_eqT_ints (is := [nn, dd]) (new_get (l _ _ ea) nt) (new_get (l _ _ eb) nt) (by have := cLine_is; lia) ?_
      tm_at "w"
      exact h _ (Keep.refl.new nt)
    | null ea =>
      cases rb with
      | null eb =>
      tm_at "w"
      refine isi_null g ea l ?_
      tm_at "w"
      rename_i t nt
      refine is3_null g ea (le_new l nt) (upd_same _ _ _) ?_
      have k1 : Keep [] H (upd H t (.tup [.ty "int", .ty "str", .ty "tuple"])) := Keep.refl.new nt
      tm_at "w"
      exact h _ k1
    | @vec k xs nm x i av avs hva ea ra hla hxa =>
      cases rb with
      | @vec _ _ _ y j bv bvs hvb eb rb hlb hxb =>
      tm_at "w"
      refine isi_vec g hva l ?_
      tm_at "w"
      refine ite_dec (fun q => absurd rfl q) (fun _ => ?_)
      obtain ⟨m, rfl⟩ : ∃ m, n = m + 1 := by
        cases n with
        | zero => exact absurd rfl (dp k xs nm)
        | succ m => exact ⟨m, rfl⟩
      obtain ⟨xz, dx⟩ := dp k xs nm rfl
      have ea' := l _ _ ea
      have eb' := l _ _ eb
      tm_at "w"
      refine cv_len ea' (by lia) ?_
      tm_at "w"
      refine cv_len eb' (by lia) ?_
      tm_at "w"
      refine ite_dec (fun q => absurd (by lia) q) (fun _ => ?_)
      refine Or.elim (show nm = none ∨ ∃ l, nm = some l by cases nm; exact .inl rfl; exact .inr ⟨_, rfl⟩) (fun e => ?ca) (fun e => ?cb)
      case' ca =>
        subst e
        cases ra
        cases rb
        have nbi : ∀ i, AV.none ≠ .bi i := fun i e => by cases e
        tm_at "w"
        refine c_eqn ?_
        tm_at "w"
      case' cb =>
        obtain ⟨nms, rfl⟩ := e
        rcases ra with _ | ⟨haa, vaa, eaa⟩
        rcases rb with _ | ⟨hab, vab, eab⟩
        rename_i aa ya la ab yb lb
        have nbi : ∀ i, AV.ref aa ≠ .bi i := fun i e => by cases e
        have nbi : ∀ i, AV.ref ab ≠ .bi i := fun i e => by cases e
        tm_at "w"
        refine sub_dictA (l _ _ haa) (v := .ref ya) (by simp [List.lookup]) ?_
        tm_at "w"
        refine sub_dictA (l _ _ hab) (v := .ref yb) (by simp [List.lookup]) ?_
        tm_at "w"
        refine c_eqL_same (l _ _ eaa) (l _ _ eab) (flat_names _) (by lia) ?_
        tm_at "w"
      all_goals
        refine cv_len ea' (by lia) ?_
        tm_at "w"
        refine cv_range fun rg nrg => ?_
        have k2 : Keep [] H (upd H rg (.rng avs.length)) := Keep.refl.new nrg
        tm_at "w"
        refine comp_map [("one", .ref x), ("two", .ref y)] [] (fun _ => True) (fun _ w _ => w = .bool true) (.rng (upd_same _ _ _) (by lia)) hsc rfl ?_ .nil (fun _ _ _ => trivial) trivial (fun _ _ _ _ _ => trivial) (fun _ _ _ _ _ h => h) (by lia) ?_ ?_
        · intro p hp
          simp only [List.mem_cons, List.not_mem_nil, or_false] at hp
          rcases hp with rfl | rfl <;> tm_at "look"
        · intro D j' w cenv σ' nD aD eo hsc hj hw k3 _ hc Po hPo
          cases hw
          have e1 := hc _ (List.mem_cons_self ..)
          have e2 := hc _ (List.mem_cons_of_mem _ (List.mem_cons_self ..))
          dsimp only at e1 e2
          have l3 : Le F σ'.H := le_pure l (k2.trans k3)
          have ej : xs[j']? = some xs[j'] := List.getElem?_eq_getElem (by lia)
          have eaj : avs[j']? = some avs[j'] := List.getElem?_eq_getElem hj
          have ebj : bvs[j']? = some bvs[j'] := List.getElem?_eq_getElem (by lia)
          tm_at "w"
          refine sub_listJ (x := avs[j']) (l3 _ _ ea) (by lia) (by first | exact eaj | exact get_map eaj | simp [eaj]) ?_
          tm_at "w"
          refine sub_listJ (x := bvs[j']) (l3 _ _ eb) (by lia) (by first | exact ebj | exact get_map ebj | simp [ebj]) ?_
          tm_at "w"
          refine (ih m (by lia) xs[j'] (dx _ (List.mem_of_getElem? ej)) (ar.le (by lia)) (hxa j' _ _ ej eaj) (hxb j' _ _ ej ebj) l3 fun H4 k4 => ?_).cv
          refine hPo _ _ ⟨k4, trivial, rfl, fun p hp => ?_⟩
          simp only [List.mem_cons, List.not_mem_nil, or_false] at hp
          rcases hp with rfl | rfl <;> tm_at "look"
        · intro D H3 ys nD k3 _ hD hn hy
          have hyb : ∀ y ∈ ys, y = .bool true := fun y hy' => by
            obtain ⟨i, hi, rfl⟩ := List.getElem_of_mem hy'
            exact hy i _ (List.getElem?_eq_getElem hi)
          refine c_ninL hD rfl (fun y hy' => by rw [hyb y hy']; rfl) ?_
          have : (ys.any fun y => feq y (.bool false)) = false := by
            rw [List.any_eq_false]
            intro y hy'
            rw [hyb y hy']
            decide
          rw [this]
          tm_at "w"
          exact h _ (k2.trans k3)
end
section
variable {G : Md} {A : Around} {H F : AH} {Q : AV → AH → Prop}
theorem ws_join {env : Env} {σ : St} {st : Stmt} {rest : List Stmt} {Q : AFl → St → Prop} (P : St → Prop) (h1 : WX G A env st (fun f σ' => f = .next ∧ P σ') σ) (h2 : ∀ σ', P σ' → WS G A env rest Q σ') : WS G A env (st :: rest) Q σ :=
  ws_cons (WF.mono h1 fun f σ' ⟨e, p⟩ => by rw [show absF f = .next from e]; exact h2 _ p)
theorem word_e {env : Env} {σ : St} {K : AV → St → Prop} (eo : EnvOK env) {o : Option Str} (m1 : σ.m "tag" = some (ostr o)) (h : K (.str (o.getD S0)) σ) {p1 p2 p3 p4 p5 p6 : Pos} {k1 k2 : Nat} : WE G A env (.IfExp (.Compare (.Name "tag" p1) [.Is] [.Constant .none k1 p2] p3) (.Constant (.str "") k2 p4) (.Name "tag" p5) p6) K σ := by
  cases o with
  | none =>
    dsimp only [ostr] at m1
    tm_at "w"
    exact h
  | some s =>
    dsimp only [ostr] at m1
    tm_at "w"
    exact h
theorem ite_lists {env : Env} {σ : St} {K : AV → St → Prop} (eo : EnvOK env) {s : Str} {i : Decidable (decide (s ≠ "") = true)} (m1 : σ.m "word" = some (.str s)) (h : ∀ a, σ.H a = none → K (.ref a) ⟨upd σ.H a (.list ((if s = S0 then [] else [s]).map .str)), σ.m⟩) {p4 p5 p6 : Pos} :
    @ite Prop (decide (s ≠ "") = true) i (WE G A env (.List [.Name "word" p4] p5) K σ) (WE G A env (.List [] p6) K σ) := by
  refine ite_dec (fun q => ?_) (fun q => ?_)
  · have q' : ¬ s = S0 := q
    simp only [q', if_false] at h
    tm_at "w"
    exact h _ (by assumption)
  · have q' : s = S0 := by simpa using q
    simp only [q', if_true] at h
    tm_at "w"
    exact h _ (by assumption)
noncomputable def top5 : List AV := [.str "logical", .str "integer", .str "double", .str "character", .str "list"]
theorem top5_flat : ∀ x ∈ top5, flat x = true := by
  unfold top5
  repeat (first | exact flat_nil | refine flat_cons rfl ?_)
theorem top5_at (k : Kd) : top5[k.o]? = some (.str k.s) := by cases k <;> rfl
theorem top5_hit (k : Kd) : ∀ x, top5[k.o]? = some x → feq x (.str k.s) = true := fun x e => by
  rw [top5_at] at e; cases e; exact beq_self_eq_true _
theorem top5_no (k : Kd) : ∀ (m : Nat) x, m < k.o → top5[m]? = some x → feq x (.str k.s) = false := fun m x h e => by
  match m, e with
  | 0, e => cases e; cases k <;> first | (simp [Kd.o] at h; done) | (simp [Kd.s, feq_s]; done)
  | 1, e => cases e; cases k <;> first | (simp [Kd.o] at h; done) | (simp [Kd.s, feq_s]; done)
  | 2, e => cases e; cases k <;> first | (simp [Kd.o] at h; done) | (simp [Kd.s, feq_s]; done)
  | 3, e => cases e; cases k <;> first | (simp [Kd.o] at h; done) | (simp [Kd.s, feq_s]; done)
  | m + 4, e => cases k <;> (simp [Kd.o] at h) <;> lia
theorem sp_due (g : GO G) (ar : Ar 12 A) {u w : Bool} {pa : Addr} {ps : List Pr} {as : List AV} (ok : OkA ps) (hpa : F pa = some (.list as)) (r : RTs RP F ps as) (l : Le F H)
    (h : ∀ H' a, Keep [] H H' → RV H' (dueV ps u w) a → Q a H') : CC G A 660 [.ref pa, .bool u, .bool w] Q H := by
  refine go3 g ar (fx660 g) rfl ?_
  intro A env ar eo hsc
  have un := ar.un
  have plen := ok.len
  have alen := r.1
  have hl := l _ _ hpa
  have pw3 : pw 3 = 81 := rfl
  have gok := glA_ok (u := u) ok
  have gln := glA_len (u := u) (ps := ps) ok.val
  have gln' : (glA u ps).length ≤ 324 := by
    have : ps.length * pw 3 ≤ 4 * pw 3 := Nat.mul_le_mul_right _ plen
    lia
  tm_at "w"
  refine comp_flat (elt := .Name "x" ⟨0, 0, 0, 0⟩) [("unfold", .bool u)] (fun j => (ps[j]?.map fun p => (ksV u p.2).map fun k => AV.str k.s).getD []) (.list hl) hsc rfl ?_ ar.hh (fun _ _ => rfl) (by decide +kernel) ?_ (fun H' k => k.le _ _ hl) (by lia) ?_ ?_ ?_
  · intro p hp
    rw [List.mem_singleton] at hp
    subst hp
    tm_at "look"
  · intro p hp
    rw [List.mem_singleton] at hp
    subst hp
    exact sne (by decide)
  · intro j
    cases q : ps[j]? with
    | none => simp
    | some p =>
      have := gl_le (u := u) 3 p.2 (ok.val p (List.mem_of_getElem? q))
      simp [ksV]; lia
  · intro D j b cenv σ' nD aD eo hsc hj hb k3 hc
    obtain ⟨p, ep⟩ := list_at_len alen hb
    obtain ⟨t, a, rfl, ht, ha⟩ := r.2 j p _ ep hb
    have hu := hc _ (List.mem_singleton.mpr rfl)
    dsimp only at hu
    have l3 : Le F σ'.H := le_pure l k3
    have ht3 := l3 _ _ ht
    tm_at "w"
    refine (sp_kinds g u 3 p.2 (by decide) (ok.val p (List.mem_of_getElem? ep)) (ar.le (by decide)) ha l3 fun H' l' k' nl' e' => ?_).cv
    refine ⟨l', rfl, k', fun q => aD (by rw [← q]; exact nl'), by rw [ep]; exact e', fun p hp => ?_⟩
    rw [List.mem_singleton] at hp
    subst hp
    tm_at "look"
  · intro D H1 nD k1 eD
    have eDk : H1 D = some (.list (((glA u ps).map vk).map fun k => .str k.s)) := by
      rw [eD, ← alen, flat_range (fun p : Pr => (ksV u p.2).map fun k => AV.str k.s) ps]
      simp only [ksV, glA, List.map_flatMap]
    tm_at "w"
    rename_i e1 ne1
    refine c_eqL_nil (new_get eDk ne1) (upd_same _ _ _) (by lia) ?_
    refine ⟨_, rfl, ite_dec (fun q => ?_) (fun q => ?_)⟩
    · have g0 : glA u ps = [] := by simpa using q
      tm_at "w"
      refine (sp_null g (ar.le (by decide)) fun H3 x d k3 nx nd ex ed => ?_).cv
      tm_at "w"
      refine h _ _ ((k1.new ne1).trans k3) ?_
      rw [dueV, if_pos g0]
      exact .null ⟨d, ex, ed⟩
    · have g0 : glA u ps ≠ [] := by simpa using q
      have ks0 : (glA u ps).map vk ≠ [] := by simpa using g0
      tm_at "w"
      rename_i lo nlo
      have k2 : Keep [] H (upd (upd H1 e1 (.list [])) lo (.list top5)) := (k1.new ne1).new nlo
      have eo2 : upd (upd H1 e1 (.list [])) lo (.list top5) lo = some (.list top5) := upd_same _ _ _
      have eD2 : upd (upd H1 e1 (.list [])) lo (.list top5) D = some (.list (((glA u ps).map vk).map fun k => .str k.s)) := new_get (new_get eDk ne1) nlo
      change upd (upd H1 e1 (.list [])) lo (.list top5) lo = some (.list top5) at eo2
      refine comp_map [("order", .ref lo)] [] (fun _ => True) (fun j v _ => ∀ k, ((glA u ps).map vk)[j]? = some k → v = .int (k.o : Nat)) (.list eD2) hsc rfl ?_ .nil (fun H' k _ => k.le _ _ eD2) trivial (fun _ _ _ _ _ => trivial) (fun _ _ _ _ _ h => h) (by simp; lia) ?_ ?_
      · intro p hp
        rw [List.mem_singleton] at hp
        subst hp
        tm_at "look"
      · intro D' j v cenv σ' nD' aD' eo hsc hj hv k3 _ hc Po hPo
        have ho := hc _ (List.mem_singleton.mpr rfl)
        dsimp only at ho
        rw [List.getElem?_map] at hv
        obtain ⟨k, ek, rfl⟩ := Option.map_eq_some_iff.mp hv
        have eo3 := k3.le _ _ eo2
        tm_at "w"
        tm_at "idxL"
        tm_at "w"
        refine ⟨.list eo3, ?_⟩
        tm_at "w"
        refine cv_indexL (j := k.o) eo3 rfl top5_flat (by decide) (by cases k <;> decide) (top5_hit k) (top5_no k) ?_
        refine hPo _ _ ⟨.refl, trivial, fun k' ek' => by rw [ek] at ek'; cases ek'; rfl, fun p hp => ?_⟩
        rw [List.mem_singleton] at hp
        subst hp
        tm_at "look"
      · intro D2 H3 ys nD2 k3 _ hD2 hn hy
        have hys : ys = (((glA u ps).map vk).map fun k => ((k.o : Nat) : Int)).map .int := by
          rw [List.map_map]
          exact eq_map_of (hn.trans (by simp)) fun i u k e1 e2 => hy i u e1 k e2
        rw [hys] at hD2
        tm_at "w"
        refine cv_maxL ar.hh hD2 (by simpa using g0) fun M hM hMx => ?_
        have hMK : M = ((hi ((glA u ps).map vk)).o : Nat) := by
          obtain ⟨k, hk, rfl⟩ := List.mem_map.mp hM
          have h1 := hi_ge hk
          have h2 := hMx _ (List.mem_map_of_mem (hi_mem ks0))
          lia
        subst hMK
        have kk : ∀ lf ∈ leavesA u ps 0, lf.k.o ≤ (hi ((glA u ps).map vk)).o := fun lf hlf => hi_ge (leavesA_k ok.val hlf)
        have K4 : (hi ((glA u ps).map vk)).o ≤ 4 := by cases hi ((glA u ps).map vk) <;> decide
        have k03 : Keep [] H H3 := k2.trans k3
        refine sub_listA (x := .str (hi ((glA u ps).map vk)).s) (k3.le _ _ eo2) (by lia) (by lia) (by simpa using top5_at _) ?_
        have dueE : dueV ps u w = .vec (hi ((glA u ps).map vk)) ((leavesA u ps 0).map fun l => conv l.k (hi ((glA u ps).map vk)) l.x) (if w && anyN u ps then some ((lnames (leavesA u ps 0) 0).map some) else none) := by rw [dueV, if_neg g0]
        rw [dueE] at h
        generalize hi ((glA u ps).map vk) = K at *
        tm_at "w"
        rename_i fl nfl
        have Ffl := le_none (le_pure l k03) nfl
        have nfl0 := k03.fresh (S := []) nfl
        refine for_list (xs := as) (fun j σ' => Keep [] H σ'.H ∧ (∃ new, σ'.H fl = some (.list new) ∧ LeafRs (cut σ'.H [fl]) fl (leavesA u (ps.take j) 0) new) ∧ σ'.m "pairs" = some (.ref pa) ∧ σ'.m "unfold" = some (.bool u) ∧ σ'.m "wanted" = some (.bool w) ∧ σ'.m "high" = some (.str K.s) ∧ σ'.m "found" = some (.ref fl) ∧ σ'.m "some" = some (.bool (anyN u (ps.take j)))) ((upd_ne _ _ (keep_ne (k03.le _ _ hl) nfl)).trans (k03.le _ _ hl)) ⟨k03.new nfl, ⟨[], upd_same _ _ _, by simp [leavesA]; exact .nil⟩, by tm_at "look", by tm_at "look", by tm_at "look", by tm_at "look", by tm_at "look", by tm_at "lv"; rfl⟩ (fun j σ' h => h.1.le _ _ hl) ?_ ?_
        · rintro j Po hPo v ⟨H4, m⟩ hj hv ⟨k4, ⟨new, ef, rf⟩, m1, m2, m3, m4, m5, m6⟩
          obtain ⟨p, ep⟩ := list_at_len alen hv
          obtain ⟨t, a, rfl, ht, ha⟩ := r.2 j p _ ep hv
          have pm := List.mem_of_getElem? ep
          have pok := ok.val p pm
          have l4 : Le F H4 := le_pure l k4
          have ht4 := l4 _ _ ht
          have cj : cntA u (ps.take j) ≤ 243 := by
            have := cntA_le (u := u) (ps := ps.take j) fun q hq => ok.val q (List.mem_of_mem_take hq)
            have : (ps.take j).length ≤ 3 := by rw [List.length_take]; lia
            have : (ps.take j).length * pw 3 ≤ 3 * pw 3 := Nat.mul_le_mul_right _ this
            lia
          have newl : new.length = cntA u (ps.take j) := by rw [← rf.1, leavesA_len fun q hq => ok.val q (List.mem_of_mem_take hq)]
          have cp := cnt_le (u := u) 3 p.2 pok
          tm_at "st"
          tm_at "st"
          tm_at "st"
          tm_at "st"
          tm_at "st"
          tm_at "st"
          tm_at "st"
          tm_at "st"
          refine word_e eo (by tm_at "look") ?_
          generalize hwd : p.1.getD S0 = wd
          have htg : tg p = wd := hwd
          have wlen : wd.length ≤ 1 := by rw [← htg]; exact ok.tag p pm
          have snoc := anyN_snoc u (ps.take j) p
          rw [← take_snoc ep, htg] at snoc
          refine nx_next (ws_join (fun σ' => Keep [] H4 σ'.H ∧ σ'.m "pairs" = some (.ref pa) ∧ σ'.m "unfold" = some (.bool u) ∧ σ'.m "wanted" = some (.bool w) ∧ σ'.m "high" = some (.str K.s) ∧ σ'.m "found" = some (.ref fl) ∧ σ'.m "piece" = some a ∧ σ'.m "word" = some (.str wd) ∧ σ'.m "some" = some (.bool (anyN u (ps.take (j + 1))))) ?_ ?_)
          · tm_at "w"
            refine ite_b (fun q => ?_) (fun q => ?_)
            · tm_at "w"
              exact ⟨trivial, .refl, by tm_at "look", by tm_at "look", by tm_at "look", by tm_at "look", by tm_at "look", by tm_at "look", by tm_at "look", by tm_at "lv"; rw [snoc, q]; rfl⟩
            · tm_at "w"
              refine ite_dec (fun q1 => ?_) (fun q1 => ?_)
              · tm_at "w"
                exact ⟨trivial, .refl, by tm_at "look", by tm_at "look", by tm_at "look", by tm_at "look", by tm_at "look", by tm_at "look", by tm_at "look", by tm_at "lv"; rw [snoc, q, decide_eq_true (show wd ≠ S0 from q1)]; rfl⟩
              · have q2 : wd = S0 := by simpa using q1
                tm_at "w"
                refine (sp_lhas g u 3 p.2 pok (ar.le (by decide)) ha l4 fun H5 k5 => ?_).cv
                tm_at "w"
                exact ⟨trivial, k5, by tm_at "look", by tm_at "look", by tm_at "look", by tm_at "look", by tm_at "look", by tm_at "look", by tm_at "look", by tm_at "lv"; rw [snoc, q, q2]; simp⟩
          · rintro ⟨H5, m'⟩ ⟨k5, q1, q2, q3, q4, q5, q6, q7, q8⟩
            have ef5 := k5.le _ _ ef
            have k05 := k4.trans k5
            tm_at "w"
            refine cv_len ef5 (by lia) ?_
            tm_at "w"
            rename_i sp nsp
            have ef6 := new_get (o := .list [.int (new.length : Nat), .int 0]) ef5 nsp
            refine ite_lists eo (by tm_at "look") fun tl ntl => ?_
            tm_at "w"
            rename_i sl nsl
            have ktl : Keep [] H5 (upd (upd H5 sp (.list [.int (new.length : Nat), .int 0])) tl (.list ((if wd = S0 then [] else [wd]).map .str))) := (Keep.refl.new nsp).new ntl
            have ksl := ktl.new (o := .list [.ref sp]) nsl
            have hsp6 : upd (upd (upd H5 sp (.list [.int (new.length : Nat), .int 0])) tl (.list ((if wd = S0 then [] else [wd]).map .str))) sl (.list [.ref sp]) sp = some (.list [.int (new.length : Nat), .int 0]) := by tm_at "get"
            have htl6 : upd (upd (upd H5 sp (.list [.int (new.length : Nat), .int 0])) tl (.list ((if wd = S0 then [] else [wd]).map .str))) sl (.list [.ref sp]) tl = some (.list ((if wd = S0 then [] else [wd]).map .str)) := by tm_at "get"
            have hsl6 : upd (upd (upd H5 sp (.list [.int (new.length : Nat), .int 0])) tl (.list ((if wd = S0 then [] else [wd]).map .str))) sl (.list [.ref sp]) sl = some (.list [.ref sp]) := upd_same _ _ _
            have ef7 := ksl.le _ _ ef5
            have fsp : fl ≠ sp := keep_ne ef5 nsp
            have tsp : tl ≠ sp := Ne.symm (keep_ne (upd_same _ _ _) ntl)
            have tfl : tl ≠ fl := Ne.symm (keep_ne ef6 ntl)
            have ssp : sl ≠ sp := Ne.symm (keep_ne (new_get (upd_same _ _ _) ntl) nsl)
            have sfl : sl ≠ fl := Ne.symm (keep_ne (ktl.le _ _ ef5) nsl)
            have nsp0 := k05.fresh (S := []) nsp
            have Fsp := le_none l nsp0
            have l7 := le_pure (le_pure l k05) ksl
            have cold : Le (cut H4 [fl]) (cut (upd (upd (upd H5 sp (.list [.int (new.length : Nat), .int 0])) tl (.list ((if wd = S0 then [] else [wd]).map .str))) sl (.list [.ref sp])) [sp, fl]) := (cut_keep k5.pure).trans ((cut_new' nsp).trans (cut_keep ksl.pure))
            generalize (upd (upd (upd H5 sp (.list [.int (new.length : Nat), .int 0])) tl (.list ((if wd = S0 then [] else [wd]).map .str))) sl (.list [.ref sp])) = H6 at *
            have twd : (if wd = S0 then [] else [wd]) = tgL p := by rw [← htg]; rfl
            rw [twd] at htl6
            have tgl1 : (tgL p).length ≤ 1 := by unfold tgL; split <;> simp
            have al6 : Alive [sp, fl] H6 := (Alive.nil.cons ef7).cons hsp6
            have cF : Le F (cut H6 [sp, fl]) := le_cut l7 fun b hb => by simp at hb; rcases hb with rfl | rfl <;> assumption
            refine (sp_leaves g u 3 p.2 (by decide) pok (S := [sp, fl]) (tags := tgL p) (pre := []) (cs := sp) (ar.le (by decide)) (ha.mono cF) (cut_at htl6 (by simp [tsp, tfl])) (cut_at hsl6 (by simp [ssp, sfl])) (by simp) al6 ef7 (by lia) (by simp) (by lia) fun H7 nw k7 e7 r7 => ?_).cv
            have hsp7 := k7.get hsp6 (by simp; exact Ne.symm fsp)
            have nwl : nw.length = cnt u p.2 := by rw [← r7.1]; exact lv_len u 3 p.2 _ _ pok
            tm_at "w"
            refine cv_len e7 (by rw [List.length_append]; lia) ?_
            tm_at "w"
            refine seti_mk (k := 1) hsp7 (by simp) (by simp) ?_
            dsimp only [List.set_cons_succ, List.set_cons_zero]
            tm_at "w"
            have c7 : Le (cut H6 [sp, fl]) (cut H7 [sp, fl]) := cut_keep (k7.mono (by simp))
            have c8 : Le (cut H7 [sp, fl]) (cut (upd H7 sp (.list [.int (new.length : Nat), .int ((new ++ nw).length : Nat)])) [fl]) := fun b ob e => by
              have hb : b ∉ [sp, fl] := fun z => by rw [cut_in z] at e; cases e
              have e' := cut_le _ _ _ _ e
              exact cut_at ((upd_ne _ _ fun z => hb (by rw [z]; exact .head _)).trans e') fun z => hb (.tail _ z)
            have k47 : Keep [fl] H4 H7 := (k5.trans ksl).pure.trans k7
            have K7 : Keep [] H (upd H7 sp (.list [.int (new.length : Nat), .int ((new ++ nw).length : Nat)])) := (k4.then k47 fun b hb => .inr (by rw [List.mem_singleton] at hb; rw [hb]; exact nfl0)).own nsp0
            refine ⟨K7, ⟨new ++ nw, (upd_ne _ _ fsp).trans e7, ?_⟩, by tm_at "look", by tm_at "look", by tm_at "look", by tm_at "look", by tm_at "look", by tm_at "look"⟩
            rw [take_snoc ep, leavesA_snoc, Nat.zero_add, ← newl]
            have rnew := rf.mono (cold.trans (c7.trans c8))
            have rnw := r7.close (cs := fl) (f := new.length) (b := (new ++ nw).length) c8 (cut_at (upd_same _ _ _) (by simp; exact Ne.symm fsp))
            rw [List.length_append, nwl] at rnw
            have el : (new ++ nw).length = new.length + cnt u p.2 := by rw [List.length_append, nwl]
            rw [el] at rnew ⊢
            exact rnew.app rnw
        · rintro ⟨H4, m⟩ ⟨k4, ⟨new, ef, rf⟩, m1, m2, m3, m4, m5, m6⟩
          rw [← alen, List.take_of_length_le (Nat.le_refl _)] at rf m6
          have cA := cntA_le (u := u) ok.val
          have lvl : (leavesA u ps 0).length = cntA u ps := leavesA_len ok.val 0
          have newl : new.length ≤ 324 := by
            rw [← rf.1, lvl]
            have : ps.length * pw 3 ≤ 4 * pw 3 := Nat.mul_le_mul_right _ plen
            lia
          tm_at "w"
          refine comp_map [("high", .str K.s)] [] (fun H' => Keep [] H4 H') (fun j v F' => ∀ lf, (leavesA u ps 0)[j]? = some lf → RV F' (conv lf.k K lf.x) v) (.list ef) hsc rfl ?_ .nil (fun H' _ k => k.le _ _ ef) .refl (fun _ _ _ n k => k.own n) (fun _ _ _ _ l h z e => (h z e).mono l) (by lia) ?_ ?_
          · intro p hp
            rw [List.mem_singleton] at hp
            subst hp
            tm_at "look"
          · intro D' j v cenv σ' nD' aD' eo hsc hj hv k5 j5 hc Po hPo
            have hh := hc _ (List.mem_singleton.mpr rfl)
            dsimp only at hh
            obtain ⟨lf, elf⟩ := list_at_len rf.1 hv
            obtain ⟨t, a, tl, sl, pre, c, rfl, et, li, -⟩ := (rf.2 j lf v elf hv).ex
            have c5 : Le (cut H4 [fl]) (cut σ'.H [D']) := (cut_le _ _).trans (le_cut j5.le fun b hb => by rw [List.mem_singleton] at hb; rw [hb]; exact nD')
            have et5 := cut_le _ _ _ _ (c5 _ _ et)
            tm_at "w"
            refine (sp_las g (S := [D']) (ar.le (by decide)) (kk lf (List.mem_of_getElem? elf)) (li.mono c5) (fun b hb => by rw [List.mem_singleton] at hb; rw [hb]; exact aD') fun H' a' k' r' => ?_).cv
            refine hPo _ _ ⟨k', j5.trans k', fun lf' e' => by rw [elf] at e'; cases e'; exact r', fun p hp => ?_⟩
            rw [List.mem_singleton] at hp
            subst hp
            tm_at "look"
          · intro D5 H5 ys nD5 _ k5 hD5 hn hy
            have rys : RVs (cut H5 [D5]) ((leavesA u ps 0).map fun l => conv l.k K l.x) ys := ⟨by rw [List.length_map, rf.1, hn], fun j v a e1 e2 => by
              rw [List.getElem?_map] at e1
              obtain ⟨lf, elf, rfl⟩ := Option.map_eq_some_iff.mp e1
              exact hy j a e2 lf elf⟩
            have k05 := k4.trans k5
            tm_at "w"
            refine (sp_Vector g (ar.le (by decide)) fun H6 y d k6 ny nd nv => ?_).cv
            have k06 := k05.trans k6
            have nd0 := k05.fresh (S := []) nd
            have rr := (rys.mono (cut_le _ _)).mono k6.le
            tm_at "w"
            have done0 : (w && anyN u ps) = false → Q (.ref y) H6 := fun q => by
              refine h _ _ k06 ?_
              rw [q]
              exact .vec (NVec.vec nv) (k6.le _ _ hD5) .none rr.1 rr.2
            refine ite_b (fun q => ?_) (fun q => ?_)
            · subst q
              tm_at "w"
              refine ite_b (fun q => ?_) (fun q => ?_)
              · tm_at "w"
                refine we_Dict1 fun da na => ?_
                have ya := keep_ne nv.x na
                have dda := keep_ne nv.d na
                have ef7 := (k5.trans k6).le _ _ ef
                have rf7 : LeafRs (upd H6 da (.dict [])) fl (leavesA u ps 0) new := (rf.mono (cut_le _ _)).mono ((k5.trans k6).new na).le
                tm_at "w"
                refine cv_len (new_get ef7 na) (by lia) ?_
                tm_at "w"
                refine cv_range fun rg nrg => ?_
                have ef8 := new_get (o := .rng new.length) (new_get (o := .dict []) ef7 na) nrg
                tm_at "w"
                refine comp_map [("found", .ref fl)] [] (fun _ => True) (fun j v _ => ∀ lf, (leavesA u ps 0)[j]? = some lf → v = .str (lname lf j)) (.rng (upd_same _ _ _) (by lia)) hsc rfl ?_ .nil (fun _ _ _ => trivial) trivial (fun _ _ _ _ _ => trivial) (fun _ _ _ _ _ h => h) (by lia) ?_ ?_
                · intro p hp
                  rw [List.mem_singleton] at hp
                  subst hp
                  tm_at "look"
                · intro D' j v cenv σ' nD' aD' eo hsc hj hv k7 _ hc Po hPo
                  cases hv
                  have hh := hc _ (List.mem_singleton.mpr rfl)
                  dsimp only at hh
                  have env' : new[j]? = some new[j] := List.getElem?_eq_getElem hj
                  obtain ⟨lf, elf⟩ := list_at_len rf.1 env'
                  have L := leavesA_at ok.val ok.tag 0 j lf elf
                  rw [Nat.zero_add] at L
                  have ef9 := k7.le _ _ ef8
                  tm_at "w"
                  refine sub_listJ (x := new[j]) ef9 (by lia) (by first | exact env' | exact get_map env' | simp [env']) ?_
                  tm_at "w"
                  refine (sp_lname g (ar.le (by decide)) (rf7.2 j lf _ elf env') ((Keep.refl.new nrg).trans k7).le (by lia) (by have := L.deep; lia) L.short L.name L.sp fun H' k' => ?_).cv
                  refine hPo _ _ ⟨k', trivial, fun lf' e' => by rw [elf] at e'; cases e'; rfl, fun p hp => ?_⟩
                  rw [List.mem_singleton] at hp
                  subst hp
                  tm_at "look"
                · intro D8 H8 zs nD8 k8 _ hD8 hn8 hy8
                  have hzs : zs = (lnames (leavesA u ps 0) 0).map .str := by
                    refine eq_map_of (hn8.trans (by rw [lnames_len, rf.1])) fun i u' x e1 e2 => ?_
                    have hi : i < (leavesA u ps 0).length := by
                      rcases Nat.lt_or_ge i (leavesA u ps 0).length with z | z
                      · exact z
                      · rw [List.getElem?_eq_none (by rw [lnames_len]; exact z)] at e2; cases e2
                    have e3 := lnames_at _ 0 i _ (List.getElem?_eq_getElem hi)
                    rw [Nat.zero_add, e2] at e3
                    cases e3
                    exact hy8 i u' e1 _ (List.getElem?_eq_getElem hi)
                  have kda : Keep [] H6 (upd (upd H6 da (.dict [])) rg (.rng new.length)) := (Keep.refl.new na).new nrg
                  have a8 : H8 da = some (.dict []) := k8.le _ _ (new_get (upd_same _ _ _) nrg)
                  tm_at "w"
                  refine (sp_character g (ar.le (by decide)) hD8 (by rw [hn8, sizeLine_eq]; lia) fun H9 z zd l' k9 nz nzd nl nvz e9 => ?_).cv
                  have k69 : Keep [] H6 H9 := (kda.trans k8).trans k9
                  have k68 : Keep [] H6 H8 := kda.trans k8
                  have a9 := k9.le _ _ a8
                  have vx9 := k69.le _ _ nv.x
                  have vd9 := k69.le _ _ nv.d
                  refine ⟨a9, ?_⟩
                  tm_at "w"
                  refine seta_mk ((upd_ne _ _ ya).trans vx9) ((upd_ne _ _ dda).trans vd9) (cV_attrs g) (by simp only [List.length_cons, List.length_nil]; decide) ?_
                  simp only [dput, ofS_eq, String.reduceEq, if_false, if_true]
                  tm_at "w"
                  have dz : d ≠ z := keep_ne (k68.le _ _ nv.d) nz
                  have dzd : d ≠ zd := keep_ne (k68.le _ _ nv.d) nzd
                  have dl : d ≠ l' := keep_ne (k68.le _ _ nv.d) nl
                  have az : da ≠ z := keep_ne a8 nz
                  have azd : da ≠ zd := keep_ne a8 nzd
                  have al' : da ≠ l' := keep_ne a8 nl
                  have iD : D5 ≠ d := fun q => by have := k6.le _ _ hD5; rw [q, nv.d] at this; cases this
                  have na0 := k06.fresh (S := []) na
                  have Kf : Keep [] H (upd (upd H9 da (.dict [("names", .ref z)])) d (.dict [("kind", .str K.s), ("items", .ref D5), ("attrs", .ref da), ("shared", .bool false), ("loose", .bool false)])) := ((k06.trans k69).own na0).own nd0
                  have Kf5 : Keep [] H5 (upd (upd H9 da (.dict [("names", .ref z)])) d (.dict [("kind", .str K.s), ("items", .ref D5), ("attrs", .ref da), ("shared", .bool false), ("loose", .bool false)])) := ((k6.trans k69).own (k6.fresh (S := []) na)).own nd
                  have r5 := (rys.mono (cut_le _ _)).mono Kf5.le
                  refine h _ _ Kf ?_
                  rw [q]
                  refine .vec (av := .ref da) ⟨d, false, false, (upd_ne _ _ (NVec.obj nv).ne).trans ((upd_ne _ _ ya).trans vx9), upd_same _ _ _⟩ (Kf5.le _ _ hD5) (.some (y := z) (l := l') ((upd_ne _ _ (Ne.symm dda)).trans (upd_same _ _ _)) ⟨zd, false, false, ?_, ?_⟩ ?_) r5.1 r5.2
                  · rw [upd_ne _ _ (Ne.symm dz), upd_ne _ _ (Ne.symm az)]; exact nvz.x
                  · rw [upd_ne _ _ (Ne.symm dzd), upd_ne _ _ (Ne.symm azd)]; exact nvz.d
                  · rw [upd_ne _ _ (Ne.symm dl), upd_ne _ _ (Ne.symm al'), e9, hzs, List.map_map]; rfl
              · tm_at "w"
                exact done0 (by rw [q]; rfl)
            · subst q
              tm_at "w"
              exact done0 rfl
end
section
variable {G : Md} {A : Around} {H F : AH} {Q : AV → AH → Prop}
theorem Dp.up {n : Nat} : ∀ {v : Vv}, Dp n v → Dp (n + 1) v := by
  induction n with
  | zero => exact fun h k xs nm e => absurd e (h k xs nm)
  | succ n ih => exact fun h k xs nm e => ⟨(h k xs nm e).1, fun x hx => ih ((h k xs nm e).2 x hx)⟩
theorem Dp.le {n m : Nat} {v : Vv} (h : Dp n v) (l : n ≤ m) : Dp m v := by
  induction l with
  | refl => exact h
  | step _ ih => exact ih.up
theorem dp_item {k : Kd} {x : Vv} (h : OkI k x) : Dp 0 x := fun k' xs nm e => by cases h <;> cases e
theorem dp_okp (n : Nat) : ∀ (v : Vv), OkP n v → Dp (n + 1) v := by
  induction n with
  | zero =>
    intro v h k xs nm e
    subst e
    exact ⟨Nat.le_trans h.len (by decide), fun x hx => dp_item (h.it h.2.2.1 x hx)⟩
  | succ n ih =>
    intro v h k xs nm e
    subst e
    refine ⟨Nat.le_trans h.len (by decide), fun x hx => ?_⟩
    by_cases hk : k = .ls
    · subst hk
      obtain ⟨m, hm, h2⟩ := h.ls
      cases hm
      exact ih x (h2 x hx)
    · exact (dp_item (h.it hk x hx)).le (by lia)
theorem dp_conv0 {k to : Kd} {x : Vv} (h : OkI k x) : Dp 1 (conv k to x) := by
  unfold conv
  split
  · exact (dp_item h).up
  · cases to with
    | ls =>
      intro k' xs nm e
      cases e
      exact ⟨by simp, fun y hy => by rw [List.mem_singleton] at hy; rw [hy]; exact dp_item h⟩
    | ch => exact Dp.up fun k' xs nm e => by cases h <;> cases e
    | db => exact Dp.up fun k' xs nm e => by cases h <;> cases e
    | it => exact (dp_item h).up
    | lg => exact (dp_item h).up
theorem dp_res {ps : List Pr} (ok : OkA ps) (u w : Bool) : Dp 5 (resV ps u w) := by
  have gok := glA_ok (u := u) ok
  unfold resV
  split
  · exact fun k xs nm e => by cases e
  · intro k xs nm e
    cases e
    constructor
    · have h1 := itemsA_le (K := hi ((glA u ps).map vk)) (parts := glA u ps) fun p hp => by
        obtain ⟨k, xs, nm, rfl, pok⟩ := gok p hp
        exact pok.len
      have h2 := glA_len (u := u) (ps := ps) ok.val
      have h3 := ok.len
      have : ps.length * pw 3 ≤ 4 * pw 3 := Nat.mul_le_mul_right _ h3
      have : pw 3 = 81 := rfl
      lia
    · intro y hy
      obtain ⟨p, hp, hy⟩ := List.mem_flatMap.mp hy
      obtain ⟨x, hx, rfl⟩ := List.mem_map.mp hy
      have kk := hi_ge (List.mem_map_of_mem (f := vk) hp)
      obtain ⟨k, xs, nm, rfl, pok⟩ := gok p hp
      change x ∈ xs at hx
      by_cases hk : k = .ls
      · subst hk
        obtain ⟨m, hm, h2⟩ := pok.ls
        cases hm
        generalize hi ((glA u ps).map vk) = K at kk ⊢
        have : K = .ls := by cases K <;> simp [vk, Kd.o] at kk ⊢
        subst this
        show Dp 4 (conv .ls .ls x)
        rw [conv, if_pos rfl]
        exact (dp_okp 2 x (h2 x hx)).up
      · exact (dp_conv0 (pok.it hk x hx)).le (by decide)
theorem res_null (ps : List Pr) (u w : Bool) : resV ps u w = .null ∨ ∃ k xs nm, resV ps u w = .vec k xs nm := by
  unfold resV
  split
  · exact .inl rfl
  · exact .inr ⟨_, _, _, rfl⟩
theorem sp_alike (g : GO G) (ar : Ar 12 A) {v : Vv} {a b : AV} (hv : v = .null ∨ ∃ k xs nm, v = .vec k xs nm) (dp : Dp 5 v) (ra : RV F v a) (rb : RV F v b) (l : Le F H) (h : ∀ H', Keep [] H H' → Q (.bool true) H') : CC G A 667 [a, b] Q H := by
  refine go2 g ar (fx667 g) rfl ?_
  intro A env ar eo hsc
  rcases hv with rfl | ⟨k, xs, nm, rfl⟩
  · cases ra with
    | null na =>
    cases rb with
    | null nb =>
    tm_at "w"
    exact h _ .refl
  · have ra' := ra
    have rb' := rb
    cases ra with
    | vec hva ea rna hla hxa =>
    cases rb with
    | vec hvb eb rnb hlb hxb =>
    tm_at "w"
    refine ite_dec (fun q => absurd q (knull k)) (fun _ => ?_)
    tm_at "w"
    refine ite_dec (fun q => absurd q (knull k)) (fun _ => ?_)
    tm_at "w"
    refine (sp_same g 5 _ dp (ar.le (by decide)) ra' rb' l fun H' k' => ?_).cv
    tm_at "w"
    exact h _ k'
end
section
variable {G : Md} {A : Around} {H F : AH} {Q : AV → AH → Prop}
/-- the pairs built -/
noncomputable def Prs (S : List Addr) (pl : Addr) (n : Nat) (H : AH) : Prop := ∃ ps ts, H pl = some (.list ts) ∧ RTs RP (cut H (pl :: S)) ps ts ∧ (∀ p ∈ ps, OkP 3 p.2) ∧ (∀ p ∈ ps, (tg p).length ≤ 1) ∧ ps.length = n
theorem Prs.keep {S : List Addr} {pl l : Addr} {n : Nat} {H H' : AH} (h : Prs S pl n H) (k : Keep [l] H H') (ls : l ∈ S) (ne : pl ≠ l) : Prs S pl n H' := by
  obtain ⟨ps, ts, e, r, o, t, z⟩ := h
  exact ⟨ps, ts, k.get e (by simpa using ne), r.mono (fun _ _ _ _ l r => r.mono l) (cut_keep (k.mono fun a ha => by rw [List.mem_singleton] at ha; rw [ha]; exact .tail _ ls)), o, t, z⟩
theorem Prs.new {S : List Addr} {pl a : Addr} {n : Nat} {H : AH} {o : AObj} (h : Prs S pl n H) (na : H a = none) : Prs S pl n (upd H a o) := by
  obtain ⟨ps, ts, e, r, q, t, z⟩ := h
  exact ⟨ps, ts, (upd_ne _ _ (keep_ne e na)).trans e, r.mono (fun _ _ _ _ l r => r.mono l) (cut_new na), q, t, z⟩
theorem Prs.al {S : List Addr} {pl : Addr} {n : Nat} {H : AH} (h : Prs S pl n H) : H pl ≠ none := by
  obtain ⟨_, _, e, _⟩ := h; rw [e]; exact Option.some_ne_none _
theorem tag_e : ∀ (k : Int), 0 ≤ k → k < 4 → ∃ o : Option Str, [AV.none, .str "", .str "a", .str "b"][k.toNat]? = some (ostr o) ∧ (o.getD S0).length ≤ 1 := fun k h0 h4 => by
  have : k = 0 ∨ k = 1 ∨ k = 2 ∨ k = 3 := by lia
  rcases this with rfl | rfl | rfl | rfl
  · exact ⟨none, rfl, by show S0.length ≤ 1; rw [s0_len]; lia⟩
  · exact ⟨some "", rfl, by show S0.length ≤ 1; rw [s0_len]; lia⟩
  · exact ⟨some "a", rfl, by decide +kernel⟩
  · exact ⟨some "b", rfl, by decide +kernel⟩
theorem sp_law (g : GO G) (ar : Ar 22 A) {s : Addr} {ns : List Int} (hs : ListAt G H s (ns.map .int)) (hn : ns.length ≤ 63) (h : ∀ H', Q (.bool true) H') : CC G A 672 [.ref s] Q H := by
  refine go1 g ar (fx672 g) rfl ?_
  intro A env ar eo hsc
  tm_at "w"
  refine (sp_digits g (ar.le (by decide)) hs hn fun H1 rw is k1 nrw erw zrw => ?_).cv
  have row1 : Row H1 rw := ⟨is, erw, by lia⟩
  tm_at "w"
  rename_i pl npl
  have row2 := row1.upd (o := .list []) npl
  have pr2 : Prs [rw] pl 0 (upd H1 pl (.list [])) := ⟨[], [], upd_same _ _ _, .nil, fun _ h => (nomatch h), fun _ h => (nomatch h), rfl⟩
  have rpl : pl ≠ rw := Ne.symm (row1.ne npl)
  refine (row2.draw g (ar.le (by decide)) (by decide) fun H3 cnt k3 row3 c0 c5 => ?_).cv
  obtain ⟨m, rfl⟩ := Int.eq_ofNat_of_zero_le c0
  have pr3 := pr2.keep k3 (by simp) rpl
  tm_at "w"
  refine cv_range fun rg nrg => ?_
  have pr4 := pr3.new (o := .rng m) nrg
  have row4 := row3.upd (o := .rng m) nrg
  tm_at "w"
  refine for_rng (fun j σ' => Row σ'.H rw ∧ Prs [rw] pl j σ'.H ∧ σ'.m "row" = some (.ref rw) ∧ σ'.m "pairs" = some (.ref pl)) (upd_same _ _ _) (by lia) ⟨row4, pr4, by tm_at "look", by tm_at "look"⟩ ?_ ?_
  · rintro j Po hPo ⟨H5, m'⟩ hj ⟨row5, pr5, m1, m2⟩
    tm_at "w"
    rename_i aL naL
    have row6 := row5.upd (o := .list [.none, .str "", .str "a", .str "b"]) naL
    have pr6 := pr5.new (o := .list [.none, .str "", .str "a", .str "b"]) naL
    refine (row6.draw g (ar.le (by decide)) (by decide) fun H7 k k7 row7 h0 h4 => ?_).cv
    have pr7 := pr6.keep k7 (by simp) rpl
    have eL := k7.get (upd_same _ _ _) (by simp; exact Ne.symm (row5.ne naL))
    obtain ⟨o, eo', ho⟩ := tag_e k h0 h4
    tm_at "w"
    refine sub_listA (x := ostr o) eL h0 (by lia) eo' ?_
    have pr7' := pr7
    obtain ⟨_, _, epl7, _⟩ := pr7'
    tm_at "w"
    refine ⟨⟨_, epl7⟩, ?_⟩
    tm_at "w"
    have al7 : Alive [pl, rw] H7 := (Alive.nil.cons row7.choose_spec.1).cons epl7
    refine (sp_lvalue g 3 (by decide) (S := [pl, rw]) (ar.le (by decide)) row7 (by simp) al7 fun H8 v a k8 row8 ov rv => ?_).cv
    have pr8 := pr7.keep k8 (by simp) rpl
    obtain ⟨ps, ts, epl, rps, okp, okt, psl⟩ := pr8
    tm_at "w"
    rename_i t nt
    have plt := keep_ne epl nt
    refine ⟨ts, (upd_ne _ _ plt).trans epl, by rw [← rps.1, sizeLine_eq]; lia, ?_⟩
    tm_at "w"
    have c1 : Le (cut H8 [pl, rw]) (cut (upd H8 t (.tup [ostr o, a])) [pl, rw]) := cut_new nt
    have tS : t ∉ [pl, rw] := by simp; exact ⟨Ne.symm plt, Ne.symm (row8.ne nt)⟩
    refine ⟨(row8.upd nt).at (Ne.symm rpl), ⟨ps ++ [(o, v)], ts ++ [.ref t], upd_same _ _ _, ?_, fun p hp => ?_, fun p hp => ?_, by simp [psl]⟩, by tm_at "look", by tm_at "look"⟩
    · show RTs RP (cut (upd _ pl _) [pl, rw]) _ _
      rw [cut_upd_in (by simp)]
      exact (rps.mono (fun _ _ _ _ l r => r.mono l) c1).snoc (cut_at (upd_same _ _ _) tS) (rv.mono c1)
    · rcases List.mem_append.mp hp with hp | hp
      · exact okp p hp
      · rw [List.mem_singleton] at hp; rw [hp]; exact ov
    · rcases List.mem_append.mp hp with hp | hp
      · exact okt p hp
      · rw [List.mem_singleton] at hp; rw [hp]; exact ho
  · rintro ⟨H5, m'⟩ ⟨row5, ⟨ps, ts, epl, rps, okp, okt, psl⟩, m1, m2⟩
    have ok : OkA ps := ⟨by lia, okp, okt⟩
    have rP : RTs RP H5 ps ts := rps.mono (fun _ _ _ _ l r => r.mono l) (cut_le _ _)
    have psl4 : ps.length ≤ 4 := by lia
    clear rps row5 pr4 row4 pr3 row3 pr2 row2
    tm_at "w"
    refine comp_map [] [] (fun H' => Keep [] H5 H') (fun j u F' => ∀ p, ps[j]? = some p → ∃ t b, u = .ref t ∧ F' t = some (.tup [ostr p.1, b]) ∧ RV F' p.2 b) (.list epl) hsc rfl (fun _ h => nomatch h) .nil (fun H' _ k => k.le _ _ epl) .refl (fun _ _ _ n k => k.own n) (fun _ _ _ _ l h p e => let ⟨t, b, e1, e2, e3⟩ := h p e; ⟨t, b, e1, l _ _ e2, e3.mono l⟩) (by rw [← rP.1]; lia) ?_ ?_
    · intro D j v cenv σ' nD aD eo hsc hj hv k6 j6 hc Po hPo
      obtain ⟨p, ep⟩ := list_at_len rP.1 hv
      obtain ⟨t, a, rfl, ht, ha⟩ := rP.2 j p _ ep hv
      have ht6 := j6.le _ _ ht
      have cF : Le H5 (cut σ'.H [D]) := le_cut j6.le fun b hb => by rw [List.mem_singleton] at hb; rw [hb]; exact nD
      tm_at "w"
      refine (sp_built g 3 p.2 (ok.val p (List.mem_of_getElem? ep)) (S := [D]) (ar.le (by decide)) ha cF (fun b hb => by rw [List.mem_singleton] at hb; rw [hb]; exact aD) fun H7 b k7 r7 => ?_).cv
      tm_at "w"
      rename_i t2 nt2
      have k67 : Keep [] σ'.H (upd H7 t2 (.tup [ostr p.1, b])) := k7.trans (Keep.refl.new nt2)
      have Dt : t2 ≠ D := fun q => by
        have := k7.alive (S := []) aD
        rw [← q] at this; exact this nt2
      exact ⟨k67, j6.trans k67, fun p' ep' => by rw [ep] at ep'; cases ep'; exact ⟨t2, b, rfl, cut_at (upd_same _ _ _) (by simpa using Dt), r7.mono (cut_new nt2)⟩, fun _ h => nomatch h⟩
    · intro al H6 as nal _ k6 eal asl has
      have rA : RTs RV (cut H6 [al]) ps as := ⟨by rw [asl, rP.1], fun j p a e1 e2 => has j a e2 p e1⟩
      have rA' : RTs RV H6 ps as := rA.mono (fun _ _ _ _ l r => r.mono l) (cut_le _ _)
      have rP6 : RTs RP H6 ps ts := rP.mono (fun _ _ _ _ l r => r.mono l) k6.le
      have epl6 := k6.le _ _ epl
      tm_at "w"
      refine comp_map [] [] (fun H' => Keep [] H6 H') (fun j u F' => ∀ p, ps[j]? = some p → RV F' p.2 u) (.list epl6) hsc rfl (fun _ h => nomatch h) .nil (fun H' _ k => k.le _ _ epl6) .refl (fun _ _ _ n k => k.own n) (fun _ _ _ _ l h p e => (h p e).mono l) (by rw [← rP.1]; lia) ?_ ?_
      · intro D j v cenv σ' nD aD eo hsc hj hv k7 j7 hc Po hPo
        obtain ⟨p, ep⟩ := list_at_len rP6.1 hv
        obtain ⟨t, a, rfl, ht, ha⟩ := rP6.2 j p _ ep hv
        have ht7 := j7.le _ _ ht
        have cF : Le H6 (cut σ'.H [D]) := le_cut j7.le fun b hb => by rw [List.mem_singleton] at hb; rw [hb]; exact nD
        tm_at "w"
        refine (sp_built g 3 p.2 (ok.val p (List.mem_of_getElem? ep)) (S := [D]) (ar.le (by decide)) ha cF (fun b hb => by rw [List.mem_singleton] at hb; rw [hb]; exact aD) fun H8 b k8 r8 => ?_).cv
        exact hPo _ _ ⟨k8, j7.trans k8, fun p' ep' => by rw [ep] at ep'; cases ep'; exact r8, fun _ h => nomatch h⟩
      · intro bl H7 bs nbl _ k7 ebl bsl hbs
        have rB : ps.length = bs.length ∧ ∀ (j : Nat) p b, ps[j]? = some p → bs[j]? = some b → RV H7 p.2 b := ⟨by rw [bsl, rP.1], fun j p b e1 e2 => (hbs j b e2 p e1).mono (cut_le _ _)⟩
        have rA7 : RTs RV H7 ps as := rA'.mono (fun _ _ _ _ l r => r.mono l) k7.le
        have rP7 : RTs RP H7 ps ts := rP6.mono (fun _ _ _ _ l r => r.mono l) k7.le
        have epl7 := k7.le _ _ epl6
        have eal7 := k7.le _ _ eal
        tm_at "w"
        rename_i fb nfb
        refine for_list (xs := [.bool false, .bool true]) (fun j σ' => Keep [] H7 σ'.H ∧ σ'.H fb = some (.list [.bool false, .bool true]) ∧ σ'.m "args" = some (.ref al) ∧ σ'.m "pairs" = some (.ref pl) ∧ σ'.m "before" = some (.ref bl)) (upd_same _ _ _) ⟨Keep.refl.new nfb, upd_same _ _ _, by tm_at "look", by tm_at "look", by tm_at "look"⟩ (fun j σ' h => h.2.1) ?_ ?_
        · rintro j Po hPo v ⟨H8, m⟩ hj hv ⟨k8, e8, m1, m2, m3⟩
          obtain ⟨u, rfl⟩ : ∃ u, v = .bool u := by
            match j, hv with
            | 0, hv => cases hv; exact ⟨_, rfl⟩
            | 1, hv => cases hv; exact ⟨_, rfl⟩
          tm_at "w"
          rename_i fw nfw
          refine for_list (xs := [.bool false, .bool true]) (fun j σ' => Keep [] H7 σ'.H ∧ σ'.H fb = some (.list [.bool false, .bool true]) ∧ σ'.H fw = some (.list [.bool false, .bool true]) ∧ σ'.m "args" = some (.ref al) ∧ σ'.m "pairs" = some (.ref pl) ∧ σ'.m "before" = some (.ref bl) ∧ σ'.m "unfold" = some (.bool u)) (upd_same _ _ _) ⟨k8.new nfw, (upd_ne _ _ (keep_ne e8 nfw)).trans e8, upd_same _ _ _, by tm_at "look", by tm_at "look", by tm_at "look", by tm_at "look"⟩ (fun j σ' h => h.2.2.1) ?_ ?_
          · rintro j Po hPo v ⟨H9, m⟩ hj hv ⟨k9, e9, e9', m1, m2, m3, m4⟩
            obtain ⟨w, rfl⟩ : ∃ w, v = .bool w := by
              match j, hv with
              | 0, hv => cases hv; exact ⟨_, rfl⟩
              | 1, hv => cases hv; exact ⟨_, rfl⟩
            tm_at "w"
            refine (sp_combine g (ar.le (by decide)) ok eal7 rA7 k9.le fun H10 a k10 ra => ?_).cv
            tm_at "w"
            refine (sp_due g (ar.le (by decide)) ok epl7 rP7 (k9.trans k10).le fun H11 b k11 rb => ?_).cv
            rw [due_eq ok] at rb
            tm_at "w"
            refine (sp_alike g (ar.le (by decide)) (res_null ps u w) (dp_res ok u w) (ra.mono k11.le) rb (Le.refl _) fun H12 k12 => ?_).cv
            have k912 := (k10.trans k11).trans k12
            tm_at "w"
            exact ⟨k9.trans k912, k912.le _ _ e9, k912.le _ _ e9', by tm_at "look", by tm_at "look", by tm_at "look", by tm_at "look"⟩
          · rintro ⟨H9, m⟩ ⟨k9, e9, e9', m1, m2, m3, m4⟩
            tm_at "w"
            exact ⟨k9, e9, m1, m2, m3⟩
        · rintro ⟨H8, m⟩ ⟨k8, e8, m1, m2, m3⟩
          have tl : ts.length ≤ 4 := by rw [← rP.1]; exact psl4
          tm_at "w"
          refine cv_len (k8.le _ _ epl7) (by lia) ?_
          tm_at "w"
          refine cv_range fun rg2 nrg2 => ?_
          tm_at "w"
          refine for_rng (fun j σ' => Keep [] H7 σ'.H ∧ σ'.m "args" = some (.ref al) ∧ σ'.m "pairs" = some (.ref pl) ∧ σ'.m "before" = some (.ref bl)) (upd_same _ _ _) (by lia) ⟨k8.new nrg2, by tm_at "look", by tm_at "look", by tm_at "look"⟩ ?_ ?_
          · rintro j Po hPo ⟨H9, m⟩ hj ⟨k9, m1, m2, m3⟩
            have ep : ps[j]? = some (ps[j]'(by rw [rP.1]; exact hj)) := List.getElem?_eq_getElem _
            generalize ps[j]'(by rw [rP.1]; exact hj) = p at ep
            have et : ts[j]? = some ts[j] := List.getElem?_eq_getElem hj
            have ea : as[j]? = some (as[j]'(by lia)) := List.getElem?_eq_getElem _
            have eb : bs[j]? = some (bs[j]'(by lia)) := List.getElem?_eq_getElem _
            generalize as[j]'(by lia) = a0 at ea
            generalize bs[j]'(by lia) = b0 at eb
            generalize ts[j] = t0 at et
            obtain ⟨t, x, rfl, ht, hx⟩ := rP7.2 j p _ ep et
            obtain ⟨ta, av, rfl, hta, hav⟩ := rA7.2 j p _ ep ea
            have hb := rB.2 j p _ ep eb
            have pok := ok.val p (List.mem_of_getElem? ep)
            have epl9 := k9.le _ _ epl7
            have ht9 := k9.le _ _ ht
            obtain ⟨o, v⟩ := p
            dsimp only at ht ht9 hx hta hav hb pok
            tm_at "w"
            refine sub_listJ (x := .ref t) epl9 (by lia) (by first | exact et | exact get_map et | simp [et]) ?_
            have vv : v = .null ∨ ∃ k xs nm, v = .vec k xs nm := pok.cases
            have dpv : Dp 5 v := (dp_okp 3 v pok).up
            have hh : (∃ xx kk r1 r2, x = .ref xx ∧ H7 xx = some (.list [.str kk, r1, r2]) ∧ ¬ kk = "list" ∧ ∀ xs nm, v ≠ .vec .ls xs nm) ∨ ∃ xs nm xx i nmv avs, v = .vec .ls xs nm ∧ x = .ref xx ∧ H7 xx = some (.list [.str "list", .ref i, nmv]) ∧ H7 i = some (.list avs) ∧ RPN H7 nm nmv ∧ xs.length = avs.length ∧ ∀ (j : Nat) v a, xs[j]? = some v → avs[j]? = some a → RP H7 v a := by
              cases hx with
              | null ex ei => exact .inl ⟨_, _, _, _, rfl, ex, by simp [ofS_eq], fun _ _ e => nomatch e⟩
              | @vec k xs nm x i n avs hk ex ei rn hx => exact .inl ⟨_, _, _, _, rfl, ex, by cases k <;> first | exact absurd rfl hk | simp [Kd.s, ofS_eq], fun _ _ e => hk (by cases e; rfl)⟩
              | list ex ei rn hl hx => exact .inr ⟨_, _, _, _, _, _, rfl, rfl, ex, ei, rn, hl, hx⟩
            rcases hh with ⟨xx, kk, r1, r2, rfl, ex, nk, nls⟩ | ⟨xs, nm, xx, i, nmv, avs, rfl, rfl, ex, ei, rn, hl, hxs⟩
            · have ex9 := k9.le _ _ ex
              tm_at "w"
              refine ite_dec (fun q => absurd q nk) (fun _ => ?_)
              tm_at "w"
              rename_i il nil
              refine cv_len (upd_same _ _ _) (by simp) ?_
              tm_at "w"
              refine cv_range fun rg3 nrg3 => ?_
              have kA : Keep [] H9 (upd (upd H9 il (.list [])) rg3 (.rng ([] : List AV).length)) := (Keep.refl.new nil).new nrg3
              tm_at "w"
              refine comp_map [("inner", .ref il), ("piece", .ref xx)] [] (fun _ => True) (fun _ _ _ => True) (.rng (upd_same _ _ _) (by simp)) hsc rfl ?_ .nil (fun _ _ _ => trivial) trivial (fun _ _ _ _ _ => trivial) (fun _ _ _ _ _ h => h) (by simp) ?_ ?_
              · intro p hp
                simp only [List.mem_cons, List.not_mem_nil, or_false] at hp
                rcases hp with rfl | rfl <;> tm_at "look"
              · intro D j' v' cenv σ' nD aD eo hsc hj' Po hPo
                exact absurd hj' (by simp)
              · intro hl2 H10 ys nhl k10 _ ehl _ _
                have k910 : Keep [] H7 H10 := (k9.trans kA).trans k10
                tm_at "w"
                rename_i fw nfw
                refine for_list (xs := [.bool false, .bool true]) (fun j' σ' => Keep [] H7 σ'.H ∧ σ'.H fw = some (.list [.bool false, .bool true]) ∧ σ'.m "args" = some (.ref al) ∧ σ'.m "pairs" = some (.ref pl) ∧ σ'.m "before" = some (.ref bl) ∧ σ'.m "at" = some (.int j) ∧ σ'.m "piece" = some (.ref xx)) (upd_same _ _ _) ⟨k910.new nfw, upd_same _ _ _, by tm_at "look", by tm_at "look", by tm_at "look", by tm_at "look", by tm_at "look"⟩ (fun j σ' h => h.2.1) ?_ ?_
                · rintro j' Po hPo v' ⟨H11, m⟩ hj' hv' ⟨k11, ew, m1, m2, m3, m4, m5⟩
                  obtain ⟨w, rfl⟩ : ∃ w, v' = .bool w := by
                    match j', hv' with
                    | 0, hv => cases hv; exact ⟨_, rfl⟩
                    | 1, hv => cases hv; exact ⟨_, rfl⟩
                  have eal11 := k11.le _ _ eal7
                  have hta11 := k11.le _ _ hta
                  tm_at "w"
                  refine sub_listJ (x := .ref ta) eal11 (by lia) (by first | exact ea | exact get_map ea | simp [ea]) ?_
                  tm_at "w"
                  refine (sp_unlisted0 g (ar.le (by decide)) pok nls hav k11.le fun H12 k12 => ?_).cv
                  have ex12 := (k11.trans k12).le _ _ ex
                  have ebl12 := (k11.trans k12).le _ _ ebl
                  tm_at "w"
                  refine ite_dec (fun q => absurd q nk) (fun _ => ?_)
                  tm_at "w"
                  refine sub_listJ (x := b0) ebl12 (by lia) (by first | exact eb | exact get_map eb | simp [eb]) ?_
                  tm_at "w"
                  refine (sp_alike g (ar.le (by decide)) vv dpv hav hb (k11.trans k12).le fun H13 k13 => ?_).cv
                  have k1113 := k12.trans k13
                  tm_at "w"
                  exact ⟨k11.trans k1113, k1113.le _ _ ew, by tm_at "look", by tm_at "look", by tm_at "look", by tm_at "look", by tm_at "look"⟩
                · rintro ⟨H11, m⟩ ⟨k11, ew, m1, m2, m3, m4, m5⟩
                  have eal11 := k11.le _ _ eal7
                  have hta11 := k11.le _ _ hta
                  have ebl11 := k11.le _ _ ebl
                  tm_at "w"
                  refine sub_listJ (x := .ref ta) eal11 (by lia) (by first | exact ea | exact get_map ea | simp [ea]) ?_
                  tm_at "w"
                  refine sub_listJ (x := b0) ebl11 (by lia) (by first | exact eb | exact get_map eb | simp [eb]) ?_
                  tm_at "w"
                  refine (sp_alike g (ar.le (by decide)) vv dpv hav hb k11.le fun H13 k13 => ?_).cv
                  tm_at "w"
                  exact ⟨k11.trans k13, by tm_at "look", by tm_at "look", by tm_at "look"⟩
            · have ex9 := k9.le _ _ ex
              have hz := pok.len
              have hnm := pok.nm
              have okH : OkA (headsV xs nm) := by
                obtain ⟨m', hm', hok⟩ := pok.ls
                cases hm'
                exact headsV_ok hnm hz hok (by decide)
              have hlen := headsV_len hnm
              tm_at "w"
              refine cv_len (k9.le _ _ ei) (by lia) ?_
              tm_at "w"
              refine cv_range fun rg3 nrg3 => ?_
              have kA : Keep [] H9 (upd H9 rg3 (.rng avs.length)) := Keep.refl.new nrg3
              have k79 := k9.trans kA
              tm_at "w"
              refine comp_map [("inner", .ref i), ("piece", .ref xx)] [] (fun H' => Keep [] (upd H9 rg3 (.rng avs.length)) H') (fun j' u F' => ∀ p, (headsV xs nm)[j']? = some p → ∃ t b, u = .ref t ∧ F' t = some (.tup [ostr p.1, b]) ∧ RP F' p.2 b) (.rng (upd_same _ _ _) (by lia)) hsc rfl ?_ .nil (fun _ _ _ => trivial) .refl (fun _ _ _ n k => k.own n) (fun _ _ _ _ l h p e => let ⟨t, b, e1, e2, e3⟩ := h p e; ⟨t, b, e1, l _ _ e2, e3.mono l⟩) (by lia) ?_ ?_
              · intro p hp
                simp only [List.mem_cons, List.not_mem_nil, or_false] at hp
                rcases hp with rfl | rfl <;> tm_at "look"
              · intro D j' v' cenv σ' nD aD eo hsc hj' hv' k10 j10 hc Po hPo
                cases hv'
                have e1 := hc _ (List.mem_cons_self ..)
                have e2 := hc _ (List.mem_cons_of_mem _ (List.mem_cons_self ..))
                dsimp only at e1 e2
                have k710 : Keep [] H7 σ'.H := k79.trans j10
                have ex10 := k710.le _ _ ex
                have ei10 := k710.le _ _ ei
                have nD7 : H7 D = none := k79.fresh (S := []) nD
                have cF : Le H7 (cut σ'.H [D]) := le_cut k710.le fun b hb => by rw [List.mem_singleton] at hb; rw [hb]; exact nD7
                have exs : xs[j']? = some (xs[j']'(by lia)) := List.getElem?_eq_getElem _
                have eas : avs[j']? = some avs[j'] := List.getElem?_eq_getElem hj'
                generalize xs[j']'(by lia) = z at exs
                generalize avs[j'] = a' at eas
                have rz := (hxs j' z a' exs eas).mono cF
                have fin : ∀ (o : Option Str) (t2 : Addr), σ'.H t2 = none → (headsV xs nm)[j']? = some (o, z) → Keep [] σ'.H (upd σ'.H t2 (.tup [ostr o, a'])) ∧ Keep [] (upd H9 rg3 (.rng avs.length)) (upd σ'.H t2 (.tup [ostr o, a'])) ∧ (∀ p, (headsV xs nm)[j']? = some p → ∃ t b, AV.ref t2 = .ref t ∧ cut (upd σ'.H t2 (.tup [ostr o, a'])) [D] t = some (.tup [ostr p.1, b]) ∧ RP (cut (upd σ'.H t2 (.tup [ostr o, a'])) [D]) p.2 b) ∧ ∀ p ∈ [(("inner" : Str), AV.ref i), ("piece", .ref xx)], put σ'.m "spot" (.int j') p.1 = some p.2 := by
                  intro o t2 nt2 eh
                  have Dt : t2 ≠ D := fun q => aD (by rw [← q]; exact nt2)
                  refine ⟨Keep.refl.new nt2, j10.new nt2, fun p ep' => ?_, fun p hp => ?_⟩
                  · rw [eh] at ep'
                    cases ep'
                    exact ⟨t2, a', rfl, cut_at (upd_same _ _ _) (by simpa using Dt), rz.mono (cut_new nt2)⟩
                  · simp only [List.mem_cons, List.not_mem_nil, or_false] at hp
                    rcases hp with rfl | rfl <;> tm_at "look"
                cases rn with
                | none =>
                  tm_at "w"
                  refine sub_listJ (x := a') ei10 (by lia) (by first | exact eas | exact get_map eas | simp [eas]) ?_
                  tm_at "w"
                  exact fin none _ (by assumption) (headsV_at0 exs)
                | @some nms ln eln =>
                  have eln10 := k710.le _ _ eln
                  have hl3 : nms.length = xs.length := hnm.1
                  have eo3 : nms[j']? = some (nms[j']'(by lia)) := List.getElem?_eq_getElem _
                  generalize nms[j']'(by lia) = o3 at eo3
                  tm_at "w"
                  refine sub_listJ (x := ostr o3) eln10 (by lia) (by first | exact eo3 | exact get_map eo3 | simp [eo3]) ?_
                  tm_at "w"
                  refine sub_listJ (x := a') ei10 (by lia) (by first | exact eas | exact get_map eas | simp [eas]) ?_
                  tm_at "w"
                  exact fin o3 _ (by assumption) (headsV_at1 exs eo3)
              · intro hl2 H10 ys nhl k10 _ ehl ysl hys
                have k910 : Keep [] H7 H10 := k79.trans k10
                have rH : RTs RP H10 (headsV xs nm) ys := ⟨by rw [hlen, ysl, hl], fun j' p b e1 e2 => let ⟨t, b', q1, q2, q3⟩ := hys j' b e2 p e1; ⟨t, b', q1, cut_le _ _ _ _ q2, q3.mono (cut_le _ _)⟩⟩
                tm_at "w"
                rename_i fw nfw
                refine for_list (xs := [.bool false, .bool true]) (fun j' σ' => Keep [] H10 σ'.H ∧ σ'.H fw = some (.list [.bool false, .bool true]) ∧ σ'.m "args" = some (.ref al) ∧ σ'.m "pairs" = some (.ref pl) ∧ σ'.m "before" = some (.ref bl) ∧ σ'.m "at" = some (.int j) ∧ σ'.m "piece" = some (.ref xx) ∧ σ'.m "heads" = some (.ref hl2)) (upd_same _ _ _) ⟨Keep.refl.new nfw, upd_same _ _ _, by tm_at "look", by tm_at "look", by tm_at "look", by tm_at "look", by tm_at "look", by tm_at "look"⟩ (fun j σ' h => h.2.1) ?_ ?_
                · rintro j' Po hPo v' ⟨H11, m⟩ hj' hv' ⟨k11, ew, m1, m2, m3, m4, m5, m6⟩
                  obtain ⟨w, rfl⟩ : ∃ w, v' = .bool w := by
                    match j', hv' with
                    | 0, hv => cases hv; exact ⟨_, rfl⟩
                    | 1, hv => cases hv; exact ⟨_, rfl⟩
                  have k711 := k910.trans k11
                  have eal11 := k711.le _ _ eal7
                  have hta11 := k711.le _ _ hta
                  tm_at "w"
                  refine sub_listJ (x := .ref ta) eal11 (by lia) (by first | exact ea | exact get_map ea | simp [ea]) ?_
                  tm_at "w"
                  refine (sp_unlisted1 g (ar.le (by decide)) pok hav k711.le fun H12 a' k12 ra => ?_).cv
                  have ex12 := (k711.trans k12).le _ _ ex
                  tm_at "w"
                  refine (sp_due g (F := H10) (ar.le (by decide)) okH ehl rH (k11.trans k12).le fun H13 b' k13 rb => ?_).cv
                  rw [due_eq okH] at rb
                  tm_at "w"
                  refine (sp_alike g (ar.le (by decide)) (res_null _ true w) (dp_res okH true w) (ra.mono k13.le) rb (Le.refl _) fun H14 k14 => ?_).cv
                  have k1114 := (k12.trans k13).trans k14
                  tm_at "w"
                  exact ⟨k11.trans k1114, k1114.le _ _ ew, by tm_at "look", by tm_at "look", by tm_at "look", by tm_at "look", by tm_at "look", by tm_at "look"⟩
                · rintro ⟨H11, m⟩ ⟨k11, ew, m1, m2, m3, m4, m5, m6⟩
                  have k711 := k910.trans k11
                  have eal11 := k711.le _ _ eal7
                  have hta11 := k711.le _ _ hta
                  have ebl11 := k711.le _ _ ebl
                  tm_at "w"
                  refine sub_listJ (x := .ref ta) eal11 (by lia) (by first | exact ea | exact get_map ea | simp [ea]) ?_
                  tm_at "w"
                  refine sub_listJ (x := b0) ebl11 (by lia) (by first | exact eb | exact get_map eb | simp [eb]) ?_
                  tm_at "w"
                  refine (sp_alike g (ar.le (by decide)) vv dpv hav hb k711.le fun H13 k13 => ?_).cv
                  tm_at "w"
                  exact ⟨k711.trans k13, by tm_at "look", by tm_at "look", by tm_at "look"⟩
          · rintro ⟨H9, m⟩ ⟨k9, m1, m2, m3⟩
            tm_at "w"
            exact h _
end
end Mine
namespace Mine
theorem ints_abs : ∀ {vs : List Value} {ns : List Int}, IntsAre vs ns → vs.map abs = ns.map AV.int := by
  intro vs ns h
  induction h with
  | nil => rfl
  | cons => simp_all [abs]
theorem goT {G : Md} (go : GO G) {a : Addr} {vs : List Value} {ns : List Int} {s : Shared} (hs : s.heap = G.hT) (hL : s.heap.IsList a vs.toArray) (hI : IntsAre vs ns) (hn : ns.length ≤ 63) :
    wpAny (model G.prog G.w) callerA (call (.ref 672) [.ref a]) (fun v s' => v = .bool true ∧ (∀ b o, s.heap.get? b = some o → s'.heap.get? b = some o) ∧ SS s s') (fun _ _ => False) s := by
  have ar : Ar 22 callerA := ⟨rfl, by decide +kernel, by decide +kernel⟩
  have hr : HR G (fun _ => none) s.heap := ⟨rfl, fun b o e => by rw [hs]; exact e, fun a o e => nomatch e⟩
  have cc := sp_law (Q := fun v _ => v = .bool true) (H := fun _ => none) go ar (s := a) (ns := ns) (.inr ⟨vs.toArray, hs ▸ hL, by simpa using ints_abs hI⟩) hn (fun _ => rfl)
  refine wpAny_mono ((CC.cv cc) [.ref a] rfl s hr) (fun v s' ⟨H', S, X, q⟩ => ⟨abs_bool q, fun b o e => S.frame b o e rfl, X⟩) fun _ _ e => e
end Mine
theorem PySem.Challenge.cw_nz0506_01_holds : PySem.Challenge.rw_nz0506_01.Holds := by
  refine Mine.hd ?_
  intro w s₀ s₁ mg mb G Y fa o pm cd doc dV kV ho hd' hcd hD hmg hg args vals as hpre hlay hrd hwl hlo
  have KX := kIn_of Y
  let M : Mine.Md := ⟨PySem.Challenge.rw_nz0506_01.row.prog, w, s₁.heap, Mine.hd.heap_39 w.params, mg, mb, G.T.nolimit⟩
  have gd : Mine.Gd M := ⟨KX, G.T.g, G.T.b, G.T.builtins, G.T.nolimit, G.T.nodigits⟩
  have go : Mine.GO M := ⟨gd, rfl⟩
  have e672 : M.mg (Str.ofString "law") = some (.ref 672) := go.mg (by kernel_rfl)
  have hfa : fa = 672 := by
    have h2 : M.mg (Str.ofString "law") = some (.ref fa) := (congrArg mg (show Str.ofString "law" = Mine.dk.1.name by kernel_rfl)).trans hmg
    rw [e672] at h2
    cases h2; rfl
  subst hfa
  clear hcd hD hd' ho hmg
  wrow_args hpre hlay hrd hwl hlo
  refine wpAny_mono (Mine.goT go rfl (by assumption) (by assumption) (by omega)) (fun v s' ⟨ev, keep, X⟩ => ?_) fun _ _ e => e.elim
  subst ev
  refine GoodW.toG ⟨.inl ⟨.bool true, ofPy (PyData.bool true), [], rfl, fun _ => ?_, ?_, ?_, ?_⟩, keep, X.os, X.gens.trans hg⟩
  · rfl
  · exact .bool true
  · wrow_post
  · exact fun _ => ⟨List.nodup_nil, fun _ h => nomatch h⟩
