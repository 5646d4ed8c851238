import PyProof.Rows.All
import Wide.All
import OpenK.AllK
import Wide.FinOn
import PySem.Challenge.RW_xm0042_01
set_option Elab.async false
section
-- Hm
open PySem PySem.W PyProof.Rows
set_option maxRecDepth 1000000
set_option maxHeartbeats 0
namespace Mine
abbrev pw := PySem.Challenge.pw_xm0042_01
def stAt (i : Nat) : Stmt := (pw.main.body[i]?).getD (.Pass ⟨0, 0, 0, 0⟩)
def fnO (st : Stmt) (c : Addr) (m : Value) : Obj := match st with
  | .FunctionDef n a b _ _ _ sc _ _ _ => { cls := .type "function", data := .func (fnOf n n a b sc .none .none .none m none (.ref c) .none) }
  | _ => default
def cdO (vs : Array Value) : Obj := { cls := .type "code", data := .fields vs }
def enO (P : Params) (x : String) (t : Tok) (v : Value) : DictEntry := ⟨PyData.keyHash P (Str.ofString x), .str (Str.ofString x) t, v⟩
def glE (P : Params) : List DictEntry :=
  enO P "__name__" 165 (.str (Str.ofString "law_xm0042_01") 631) ::
  enO P "__doc__" 166 (.none) ::
  enO P "__package__" 167 (.none) ::
  enO P "__loader__" 168 (.builtin "__main__.__loader__#opaque") ::
  enO P "__spec__" 169 (.none) ::
  enO P "__annotations__" 170 (.ref 6) ::
  enO P "__builtins__" 171 (.ref 4) ::
  enO P "__file__" 173 (.str (Str.ofString "/claim/cut.py") 172) ::
  enO P "__cached__" 174 (.none) ::
  enO P "MOST_TEXT" 190 (.int 255 189) ::
  enO P "MOST_EXPONENT" 192 (.int 99 191) ::
  enO P "BasicError" 226 (.ref 34) ::
  enO P "kind_of" 233 (.ref 44) ::
  enO P "figures_of" 242 (.ref 51) ::
  enO P "rounded_by" 253 (.ref 58) ::
  enO P "made" 265 (.ref 65) ::
  enO P "whole_near" 275 (.ref 72) ::
  enO P "fits" 283 (.ref 79) ::
  enO P "whole_of" 292 (.ref 86) ::
  enO P "decimal_of" 300 (.ref 93) ::
  enO P "text_of" 307 (.ref 100) ::
  enO P "checked_text" 314 (.ref 107) ::
  enO P "truth" 321 (.ref 114) ::
  enO P "size_told" 331 (.ref 121) ::
  enO P "place_told" 339 (.ref 128) ::
  enO P "text_left" 348 (.ref 135) ::
  enO P "text_mid" 359 (.ref 142) ::
  enO P "text_joined" 367 (.ref 149) ::
  enO P "ONE" 372 (.ref 150) ::
  enO P "MOST_POWER" 374 (.int 9999 373) ::
  enO P "d_negated" 381 (.ref 157) ::
  enO P "alike" 390 (.ref 164) ::
  enO P "d_add" 402 (.ref 171) ::
  enO P "d_sub" 411 (.ref 178) ::
  enO P "d_mul" 420 (.ref 185) ::
  enO P "with_rest" 429 (.ref 192) ::
  enO P "d_div" 443 (.ref 199) ::
  enO P "d_compare" 454 (.ref 206) ::
  enO P "d_power" 466 (.ref 213) ::
  enO P "square_or_end" 474 (.ref 220) ::
  enO P "is_whole" 483 (.ref 227) ::
  enO P "settled" 492 (.ref 234) ::
  enO P "whole_reckoned" 503 (.ref 241) ::
  enO P "cut_quotient" 512 (.ref 248) ::
  enO P "cut_rest" 520 (.ref 255) ::
  enO P "exponent_of" 527 (.ref 262) ::
  enO P "whole_power" 537 (.ref 269) ::
  enO P "raised" 548 (.ref 276) ::
  enO P "reckoned" 564 (.ref 283) ::
  enO P "order_of" 572 (.ref 290) ::
  enO P "logic" 584 (.ref 297) ::
  enO P "LOGIC" 592 (.ref 298) ::
  enO P "COMPARISONS" 599 (.ref 299) ::
  enO P "order_of_texts" 607 (.ref 306) ::
  enO P "compared" 615 (.ref 313) ::
  enO P "worth_of_texts" 624 (.ref 320) ::
  enO P "worth_of_two" 630 (.ref 325) ::
  enO P "_law_next_one" 641 (.ref 332) ::
  enO P "_law_spot" 650 (.ref 339) ::
  enO P "_law_set" 659 (.ref 346) ::
  enO P "_law_put_in" 670 (.ref 353) ::
  enO P "_law_taken_out" 682 (.ref 360) ::
  enO P "_law_rises" 688 (.ref 365) ::
  enO P "_law_tables" 694 (.ref 370) ::
  enO P "_law_longest" 700 (.ref 375) ::
  enO P "law" 706 (.ref 380) :: []
def glO (P : Params) : Obj := { cls := .type "dict", data := .dict (glE P).toArray 66 }
def cmO : Obj := { cls := .type "tuple", data := .seq [.str (Str.ofString "=") 593, .str (Str.ofString "<>") 594, .str (Str.ofString "<") 595, .str (Str.ofString ">") 596, .str (Str.ofString "<=") 597, .str (Str.ofString ">=") 598].toArray }
def Kf : Params → Frag := fun P =>
  ((nat_lit 3), glO P) ::
  ((nat_lit 43), cdO #[.str (Str.ofString "kind_of") 227, .str (Str.ofString "kind_of") 228, .str (Str.ofString "/claim/cut.py") 229, .int 10 0, .int 1 0, .int 0 0, .int 0 0, .int 3 0, .ref 38, .bool true, .int 181 0, .ref 39, .none, .ref 40, .ref 41, .ref 42, .int 231 0, .int 10 0, .str (Str.ofString "/claim/cut.py") 232]) ::
  ((nat_lit 44), fnO (stAt 4) 43 (.str (Str.ofString "basicplus.values") 187)) ::
  ((nat_lit 99), cdO #[.str (Str.ofString "text_of") 301, .str (Str.ofString "text_of") 302, .str (Str.ofString "/claim/cut.py") 303, .int 64 0, .int 1 0, .int 0 0, .int 0 0, .int 3 0, .ref 94, .bool true, .int 181 0, .ref 95, .none, .ref 96, .ref 97, .ref 98, .int 305 0, .int 64 0, .str (Str.ofString "/claim/cut.py") 306]) ::
  ((nat_lit 100), fnO (stAt 12) 99 (.str (Str.ofString "basicplus.values") 187)) ::
  ((nat_lit 106), cdO #[.str (Str.ofString "checked_text") 308, .str (Str.ofString "checked_text") 309, .str (Str.ofString "/claim/cut.py") 310, .int 68 0, .int 1 0, .int 0 0, .int 0 0, .int 3 0, .ref 101, .bool true, .int 181 0, .ref 102, .none, .ref 103, .ref 104, .ref 105, .int 312 0, .int 68 0, .str (Str.ofString "/claim/cut.py") 313]) ::
  ((nat_lit 107), fnO (stAt 13) 106 (.str (Str.ofString "basicplus.values") 187)) ::
  ((nat_lit 113), cdO #[.str (Str.ofString "truth") 315, .str (Str.ofString "truth") 316, .str (Str.ofString "/claim/cut.py") 317, .int 72 0, .int 1 0, .int 0 0, .int 0 0, .int 3 0, .ref 108, .bool true, .int 181 0, .ref 109, .none, .ref 110, .ref 111, .ref 112, .int 319 0, .int 72 0, .str (Str.ofString "/claim/cut.py") 320]) ::
  ((nat_lit 114), fnO (stAt 14) 113 (.str (Str.ofString "basicplus.values") 187)) ::
  ((nat_lit 120), cdO #[.str (Str.ofString "size_told") 324, .str (Str.ofString "size_told") 325, .str (Str.ofString "/claim/cut.py") 326, .int 75 0, .int 1 0, .int 0 0, .int 0 0, .int 3 0, .ref 115, .bool true, .int 181 0, .ref 116, .none, .ref 117, .ref 118, .ref 119, .int 329 0, .int 75 0, .str (Str.ofString "/claim/cut.py") 330]) ::
  ((nat_lit 121), fnO (stAt 16) 120 (.str (Str.ofString "basicplus.textfns") 322)) ::
  ((nat_lit 127), cdO #[.str (Str.ofString "place_told") 332, .str (Str.ofString "place_told") 333, .str (Str.ofString "/claim/cut.py") 334, .int 82 0, .int 1 0, .int 0 0, .int 0 0, .int 3 0, .ref 122, .bool true, .int 181 0, .ref 123, .none, .ref 124, .ref 125, .ref 126, .int 337 0, .int 82 0, .str (Str.ofString "/claim/cut.py") 338]) ::
  ((nat_lit 128), fnO (stAt 17) 127 (.str (Str.ofString "basicplus.textfns") 322)) ::
  ((nat_lit 134), cdO #[.str (Str.ofString "text_left") 340, .str (Str.ofString "text_left") 341, .str (Str.ofString "/claim/cut.py") 342, .int 87 0, .int 2 0, .int 0 0, .int 0 0, .int 3 0, .ref 129, .bool true, .int 181 0, .ref 130, .none, .ref 131, .ref 132, .ref 133, .int 346 0, .int 87 0, .str (Str.ofString "/claim/cut.py") 347]) ::
  ((nat_lit 135), fnO (stAt 18) 134 (.str (Str.ofString "basicplus.textfns") 322)) ::
  ((nat_lit 141), cdO #[.str (Str.ofString "text_mid") 349, .str (Str.ofString "text_mid") 350, .str (Str.ofString "/claim/cut.py") 351, .int 90 0, .int 2 0, .int 0 0, .int 0 0, .int 3 0, .ref 136, .bool true, .int 181 0, .ref 137, .none, .ref 138, .ref 139, .ref 140, .int 357 0, .int 90 0, .str (Str.ofString "/claim/cut.py") 358]) ::
  ((nat_lit 142), fnO (stAt 19) 141 (.str (Str.ofString "basicplus.textfns") 322)) ::
  ((nat_lit 148), cdO #[.str (Str.ofString "text_joined") 360, .str (Str.ofString "text_joined") 361, .str (Str.ofString "/claim/cut.py") 362, .int 94 0, .int 2 0, .int 0 0, .int 0 0, .int 3 0, .ref 143, .bool true, .int 181 0, .ref 144, .none, .ref 145, .ref 146, .ref 147, .int 365 0, .int 94 0, .str (Str.ofString "/claim/cut.py") 366]) ::
  ((nat_lit 149), fnO (stAt 20) 148 (.str (Str.ofString "basicplus.textfns") 322)) ::
  ((nat_lit 299), cmO) ::
  ((nat_lit 305), cdO #[.str (Str.ofString "order_of_texts") 600, .str (Str.ofString "order_of_texts") 601, .str (Str.ofString "/claim/cut.py") 602, .int 208 0, .int 2 0, .int 0 0, .int 0 0, .int 3 0, .ref 300, .bool true, .int 181 0, .ref 301, .none, .ref 302, .ref 303, .ref 304, .int 605 0, .int 208 0, .str (Str.ofString "/claim/cut.py") 606]) ::
  ((nat_lit 306), fnO (stAt 49) 305 (.str (Str.ofString "basicplus.worth") 585)) ::
  ((nat_lit 312), cdO #[.str (Str.ofString "compared") 608, .str (Str.ofString "compared") 609, .str (Str.ofString "/claim/cut.py") 610, .int 210 0, .int 2 0, .int 0 0, .int 0 0, .int 3 0, .ref 307, .bool true, .int 181 0, .ref 308, .none, .ref 309, .ref 310, .ref 311, .int 613 0, .int 210 0, .str (Str.ofString "/claim/cut.py") 614]) ::
  ((nat_lit 313), fnO (stAt 50) 312 (.str (Str.ofString "basicplus.worth") 585)) ::
  ((nat_lit 319), cdO #[.str (Str.ofString "worth_of_texts") 616, .str (Str.ofString "worth_of_texts") 617, .str (Str.ofString "/claim/cut.py") 618, .int 216 0, .int 3 0, .int 0 0, .int 0 0, .int 3 0, .ref 314, .bool true, .int 181 0, .ref 315, .none, .ref 316, .ref 317, .ref 318, .int 622 0, .int 216 0, .str (Str.ofString "/claim/cut.py") 623]) ::
  ((nat_lit 320), fnO (stAt 51) 319 (.str (Str.ofString "basicplus.worth") 585)) ::
  ((nat_lit 324), cdO #[.str (Str.ofString "worth_of_two") 625, .str (Str.ofString "worth_of_two") 626, .str (Str.ofString "/claim/cut.py") 627, .int 222 0, .int 5 0, .int 0 0, .int 0 0, .int 3 0, .ref 321, .bool true, .int 181 0, .ref 322, .none, .none, .none, .ref 323, .int 628 0, .int 222 0, .str (Str.ofString "/claim/cut.py") 629]) ::
  ((nat_lit 325), fnO (stAt 52) 324 (.str (Str.ofString "basicplus.worth") 585)) ::
  ((nat_lit 331), cdO #[.str (Str.ofString "_law_next_one") 633, .str (Str.ofString "_law_next_one") 634, .str (Str.ofString "/claim/cut.py") 635, .int 234 0, .int 2 0, .int 0 0, .int 0 0, .int 3 0, .ref 326, .bool true, .int 181 0, .ref 327, .none, .ref 328, .ref 329, .ref 330, .int 639 0, .int 234 0, .str (Str.ofString "/claim/cut.py") 640]) ::
  ((nat_lit 332), fnO (stAt 54) 331 (.str (Str.ofString "law_xm0042_01") 631)) ::
  ((nat_lit 338), cdO #[.str (Str.ofString "_law_spot") 642, .str (Str.ofString "_law_spot") 643, .str (Str.ofString "/claim/cut.py") 644, .int 238 0, .int 2 0, .int 0 0, .int 0 0, .int 3 0, .ref 333, .bool true, .int 181 0, .ref 334, .none, .ref 335, .ref 336, .ref 337, .int 648 0, .int 238 0, .str (Str.ofString "/claim/cut.py") 649]) ::
  ((nat_lit 339), fnO (stAt 55) 338 (.str (Str.ofString "law_xm0042_01") 631)) ::
  ((nat_lit 345), cdO #[.str (Str.ofString "_law_set") 651, .str (Str.ofString "_law_set") 652, .str (Str.ofString "/claim/cut.py") 653, .int 243 0, .int 3 0, .int 0 0, .int 0 0, .int 3 0, .ref 340, .bool true, .int 181 0, .ref 341, .none, .ref 342, .ref 343, .ref 344, .int 657 0, .int 243 0, .str (Str.ofString "/claim/cut.py") 658]) ::
  ((nat_lit 346), fnO (stAt 56) 345 (.str (Str.ofString "law_xm0042_01") 631)) ::
  ((nat_lit 352), cdO #[.str (Str.ofString "_law_put_in") 660, .str (Str.ofString "_law_put_in") 661, .str (Str.ofString "/claim/cut.py") 662, .int 245 0, .int 2 0, .int 0 0, .int 0 0, .int 3 0, .ref 347, .bool true, .int 181 0, .ref 348, .none, .ref 349, .ref 350, .ref 351, .int 668 0, .int 245 0, .str (Str.ofString "/claim/cut.py") 669]) ::
  ((nat_lit 353), fnO (stAt 57) 352 (.str (Str.ofString "law_xm0042_01") 631)) ::
  ((nat_lit 359), cdO #[.str (Str.ofString "_law_taken_out") 671, .str (Str.ofString "_law_taken_out") 672, .str (Str.ofString "/claim/cut.py") 673, .int 255 0, .int 2 0, .int 0 0, .int 0 0, .int 3 0, .ref 354, .bool true, .int 181 0, .ref 355, .none, .ref 356, .ref 357, .ref 358, .int 680 0, .int 255 0, .str (Str.ofString "/claim/cut.py") 681]) ::
  ((nat_lit 360), fnO (stAt 58) 359 (.str (Str.ofString "law_xm0042_01") 631)) ::
  ((nat_lit 364), cdO #[.str (Str.ofString "_law_rises") 683, .str (Str.ofString "_law_rises") 684, .str (Str.ofString "/claim/cut.py") 685, .int 265 0, .int 1 0, .int 0 0, .int 0 0, .int 3 0, .ref 361, .bool true, .int 181 0, .ref 362, .none, .none, .none, .ref 363, .int 686 0, .int 265 0, .str (Str.ofString "/claim/cut.py") 687]) ::
  ((nat_lit 365), fnO (stAt 59) 364 (.str (Str.ofString "law_xm0042_01") 631)) ::
  ((nat_lit 369), cdO #[.str (Str.ofString "_law_tables") 689, .str (Str.ofString "_law_tables") 690, .str (Str.ofString "/claim/cut.py") 691, .int 273 0, .int 1 0, .int 0 0, .int 0 0, .int 3 0, .ref 366, .bool true, .int 181 0, .ref 367, .none, .none, .none, .ref 368, .int 692 0, .int 273 0, .str (Str.ofString "/claim/cut.py") 693]) ::
  ((nat_lit 370), fnO (stAt 60) 369 (.str (Str.ofString "law_xm0042_01") 631)) ::
  ((nat_lit 374), cdO #[.str (Str.ofString "_law_longest") 695, .str (Str.ofString "_law_longest") 696, .str (Str.ofString "/claim/cut.py") 697, .int 283 0, .int 2 0, .int 0 0, .int 0 0, .int 3 0, .ref 371, .bool true, .int 181 0, .ref 372, .none, .none, .none, .ref 373, .int 698 0, .int 283 0, .str (Str.ofString "/claim/cut.py") 699]) ::
  ((nat_lit 375), fnO (stAt 61) 374 (.str (Str.ofString "law_xm0042_01") 631)) :: []
def As : List Addr := (nat_lit 3) :: (nat_lit 43) :: (nat_lit 44) :: (nat_lit 99) :: (nat_lit 100) :: (nat_lit 106) :: (nat_lit 107) :: (nat_lit 113) :: (nat_lit 114) :: (nat_lit 120) :: (nat_lit 121) :: (nat_lit 127) :: (nat_lit 128) :: (nat_lit 134) :: (nat_lit 135) :: (nat_lit 141) :: (nat_lit 142) :: (nat_lit 148) :: (nat_lit 149) :: (nat_lit 299) :: (nat_lit 305) :: (nat_lit 306) :: (nat_lit 312) :: (nat_lit 313) :: (nat_lit 319) :: (nat_lit 320) :: (nat_lit 324) :: (nat_lit 325) :: (nat_lit 331) :: (nat_lit 332) :: (nat_lit 338) :: (nat_lit 339) :: (nat_lit 345) :: (nat_lit 346) :: (nat_lit 352) :: (nat_lit 353) :: (nat_lit 359) :: (nat_lit 360) :: (nat_lit 364) :: (nat_lit 365) :: (nat_lit 369) :: (nat_lit 370) :: (nat_lit 374) :: (nat_lit 375) :: []
def Qv : Program := view pw [4, 12, 13, 14, 16, 17, 18, 19, 20, 49, 50, 51, 52, 54, 55, 56, 57, 58, 59, 60, 61, 62]
def Lo : List Str := Str.ofString "MOST_TEXT" :: Str.ofString "MOST_EXPONENT" :: Str.ofString "BasicError" :: Str.ofString "figures_of" :: Str.ofString "rounded_by" :: Str.ofString "made" :: Str.ofString "whole_near" :: Str.ofString "fits" :: Str.ofString "whole_of" :: Str.ofString "decimal_of" :: Str.ofString "ONE" :: Str.ofString "MOST_POWER" :: Str.ofString "d_negated" :: Str.ofString "alike" :: Str.ofString "d_add" :: Str.ofString "d_sub" :: Str.ofString "d_mul" :: Str.ofString "with_rest" :: Str.ofString "d_div" :: Str.ofString "d_compare" :: Str.ofString "d_power" :: Str.ofString "square_or_end" :: Str.ofString "is_whole" :: Str.ofString "settled" :: Str.ofString "whole_reckoned" :: Str.ofString "cut_quotient" :: Str.ofString "cut_rest" :: Str.ofString "exponent_of" :: Str.ofString "whole_power" :: Str.ofString "raised" :: Str.ofString "reckoned" :: Str.ofString "order_of" :: Str.ofString "logic" :: Str.ofString "LOGIC" :: Str.ofString "COMPARISONS" :: []
theorem asOk : ∀ P, As = (Kf P).map (·.1) := fun _ => by kernel_rfl
abbrev Hk : Hook := kHook Kf As asOk
end Mine
namespace Mine
/-- the top's run on a tree of objects -/
def goT (stp : SharedT → Thread → Option (SharedT × Thread)) (ok : Thread → Bool) : Nat → SharedT → Thread → Option SharedT
  | 0, _, _ => none
  | n + 1, s, t => match through t with
    | true => some s
    | false => match ok t with
      | false => none
      | true => match stp s t with
        | some (s', t') => goT stp ok n s' t'
        | none => none
theorem goT_spec {p : Program} {w : World} {n₀ : Nat} {ann : Option Value} : ∀ (n : Nat) {s r : SharedT} {t : Thread}, goT (stepT (denote treeTable) p w) (stepOk n₀ ann) n s t = some r → topRun treeTable p w n₀ ann n s.abs t = some r.abs
  | 0, _, _, _, h => by cases h
  | n + 1, s, r, t, h => by
    unfold goT at h
    unfold topRun
    cases ht : through t with
    | true => rw [ht] at h; cases h; rfl
    | false =>
      rw [ht] at h
      cases hk : stepOk n₀ ann t with
      | false => rw [hk] at h; cases h
      | true =>
        rw [hk] at h
        cases hs : stepT (denote treeTable) p w s t with
        | none => rw [hs] at h; cases h
        | some q => obtain ⟨s₂, t₂⟩ := q; rw [hs] at h; rw [stepT_spec hs]; exact goT_spec n h
theorem left_of {p q : Program} {loose : List Str} {Xt : Shared → Bool} {α : Type} {Yf : Shared → α} {Ya : World → α} {N : Nat} {H₀ : Params → Heap} {T₀ : Params → BT} {n₀ : Nat} {life : Life} {d₀ : Drawn} {k₀ : Nat} {ann : Option Value}
    (open_ : ∀ w : World, (fencedOpening treeTable p w N).map (fun s => (s.heap, s.gens, s.drawn, s.toks)) = some (H₀ w.params, (Array.mk []), d₀, k₀))
    (tree : ∀ P, H₀ P = absHeap (T₀ P) n₀ life)
    (size : ∀ w : World, ((H₀ w.params).isNs mainGlobals, (H₀ w.params).objs.size, (H₀ w.params).nsMap mainGlobals "__annotations__") = (true, n₀, ann))
    (go : ∀ w : World, (fun os => (goT (stepT (denote treeTable) p w) (stepOk n₀ ann) N ⟨T₀ w.params, n₀, life, Array.mk [], d₀, k₀, os⟩ (topStub p)).map fun r =>
        ((staticsOk (importedModules p.main.body) (H₀ w.params) r.abs.heap && namesBound p r.abs.heap && gensDone r.abs && laidKept (H₀ w.params) r.abs.heap),
          openSeen q loose (importedModules p.main.body) Xt true r.abs, Yf r.abs)) = fun _ => some (true, openGood q loose, Ya w)) : LeftO p q loose Xt Yf Ya N := fun w => by
  obtain ⟨⟨h, gs, d, k, os⟩, e, e'⟩ := Option.map_eq_some_iff.mp (open_ w)
  obtain ⟨rfl, rfl, rfl, rfl⟩ : h = H₀ w.params ∧ gs = Array.mk [] ∧ d = d₀ ∧ k = k₀ := by simpa using e'
  obtain ⟨z1, z2, z3⟩ : _ ∧ _ ∧ _ := by simpa only [Prod.mk.injEq] using size w
  obtain ⟨r, e2, e3⟩ := Option.map_eq_some_iff.mp (congrFun (go w) os)
  obtain ⟨l1, l2, l3⟩ : _ ∧ _ ∧ _ := by simpa only [Prod.mk.injEq] using e3
  have g := goT_spec _ e2
  have hs : (⟨T₀ w.params, n₀, life, Array.mk [], d, k, os⟩ : SharedT).abs = ⟨H₀ w.params, Array.mk [], d, k, os⟩ := by
    show (⟨absHeap (T₀ w.params) n₀ life, _, _, _, _⟩ : Shared) = _
    rw [← tree]
  rw [hs] at g
  have t : topFrom treeTable p w N ⟨H₀ w.params, Array.mk [], d, k, os⟩ = some r.abs := by
    unfold topFrom
    dsimp only
    rw [z1, z2, z3, g]
    show (match staticsOk (importedModules p.main.body) (H₀ w.params) r.abs.heap && namesBound p r.abs.heap && gensDone r.abs && laidKept (H₀ w.params) r.abs.heap with | true => _ | false => _) = _
    rw [l1]
  unfold openEnds
  rw [e]
  show (topFrom treeTable p w N _).map _ = _
  rw [t]
  exact congrArg some (Prod.ext l2 l3)
noncomputable def T0 (P : Params) : BT := .node (boot_o_0 P) (.node (boot_o_1 P) (.node (boot_o_3 P) (.node (boot_o_7 P) (.nil) (.nil)) (.nil)) (.node (boot_o_5 P) (.node (boot_o_9 P) (.nil) (.nil)) (.nil))) (.node (boot_o_2 P) (.node (boot_o_4 P) (.node (boot_o_8 P) (.nil) (.nil)) (.nil)) (.node (boot_o_6 P) (.node (boot_o_10 P) (.nil) (.nil)) (.nil)))
theorem tree0 : ∀ P, boot_heap P = absHeap (T0 P) 11 {} := fun _ => by kernel_rfl
theorem open0 : ∀ w : World, (fencedOpening treeTable pw w 4000).map (fun s => (s.heap, s.gens, s.drawn, s.toks)) = some (boot_heap w.params, (Array.mk []), boot_drawn, boot_toks) :=
  boot_open (by kernel_rfl) (by kernel_rfl) (fun _ => by kernel_rfl)
theorem size0 : ∀ w : World, ((boot_heap w.params).isNs mainGlobals, (boot_heap w.params).objs.size, (boot_heap w.params).nsMap mainGlobals "__annotations__") = (true, 11, some (.ref 6)) := fun _ => by kernel_rfl

abbrev Xq : Shared → Bool := fun s => xlAt Qv [] s && recOk [] s
theorem goY : ∀ w : World, (fun os => (goT (PySem.W.Fast.tw10156331382660048174 (PySem.W.Fast.tw11892475500146522536 PySem.W.Fast.tw14364793385576792824) pw w) (PySem.W.Fast.tw6613529449190102663 11 (some (.ref 6))) 4000 ⟨T0 w.params, 11, {}, Array.mk [], boot_drawn, boot_toks, os⟩ (topStub pw)).map fun r =>
        ((staticsOk (PySem.W.Fast.tw5923862056798008813 pw.main.body) (boot_heap w.params) r.abs.heap && namesBound pw r.abs.heap && gensDone r.abs && laidKept (boot_heap w.params) r.abs.heap),
          PySem.W.Fast.tw4187177175401517315 Qv Lo (PySem.W.Fast.tw5923862056798008813 pw.main.body) Xq true r.abs, Hook.obs Hk r.abs)) = fun _ => some (true, openGood Qv Lo, Hook.val Hk w) := fun _ => by kernel_rfl
theorem lo : LeftO pw Qv Lo Xq (Hook.obs Hk) (Hook.val Hk) 4000 := by
  refine left_of open0 tree0 size0 ?_
  rw [PySem.W.Fast.te10156331382660048174, PySem.W.Fast.te11892475500146522536, PySem.W.Fast.te14364793385576792824, PySem.W.Fast.te6613529449190102663, PySem.W.Fast.te5923862056798008813, PySem.W.Fast.te4187177175401517315]
  exact goY
theorem ws : PySem.Challenge.rw_xm0042_01.wellSaid = true := by
  rw [PySem.W.Fast.te9446332074065402090]
  kernel_rfl
end Mine
end
section
-- Ba
open PySem PySem.W PyProof.Rows
set_option maxRecDepth 100000
set_option maxHeartbeats 4000000
namespace Mine
abbrev Loo : List Str := looseW Qv Lo
/-- what a call of the def at f gives: the frames below, the written part, the ledger before and behind -/
abbrev Ctr (w : World) (f : Addr) (nd nu : Nat) (news : List (Addr × Obj)) (vs : List Value) (R : (Value → List (Addr × Obj) → Prop) → Prop) : Prop :=
  ∀ (mean : ExcName → Option Value) (mg mb : Str → Option Value) (dp un : Nat) (gd : Option (List Code)) (cn : Str) (cs : Scope) (a : Addr) (ccd : Value) (cl : List (Str × Addr)) (outer : List Env) (A₀ : Around) (base h₀ : Heap) (L : Addr) (m : Str → Option Value) (s : Shared) (Q E : Value → Shared → Prop),
    Below A₀ base outer h₀ → Fr h₀ L s.heap m → (Kf w.params).In h₀ → News h₀ L s.heap news → Top Qv Loo mean mg mb h₀ → cs.kind = .function →
    dp + nd < recursionLimit → un + nu < cLine →
    R (fun v news' => ∀ (h' : Heap) (tk' : Nat), Fr h₀ L h' m → News h₀ L h' news' → Q v { s with heap := h', toks := tk' }) →
      wpAny (model pw w) (ktrTop dp un gd cn cs L a ccd cl outer) (call (.ref f) vs) Q E s
end Mine
end
section
-- Cm
open PySem PySem.W PyProof.Rows PySem.Spec PySem.Calls PyProof.Rows.LCg PyProof.Rows.LCt
set_option maxRecDepth 100000
set_option maxHeartbeats 4000000
namespace Mine
section
variable {prog : Program} {w : World} {A : Around} {E : Value → Shared → Prop} {s : Shared} {h₀ : Heap} {L : Addr} {m : Str → Option Value} {env : Env}
/-- an iterator that a comprehension goes over -/
def SrcW (prog : Program) (w : World) (A : Around) (h₀ : Heap) (L : Addr) (m : Str → Option Value) (Rest : Shared → (List (Addr × Obj) → Prop) → (Nat → Value → Prop) → Nat → List (Addr × Obj) → Prop) (it : Value) (s₂ : Shared) : Prop :=
  ∃ I fp n P St S news, it = .ref I ∧ Walks prog w A I fp [I] n P St ∧ n ≤ sizeLine ∧ (∀ i h, St i h → ∃ o, h.get? I = some o) ∧
    (∀ i h h' o nw, St i h → h.get? I = some o → h'.get? I = some o → (∀ b o, h₀.get? b = some o → h'.get? b = some o) → News h₀ L h' nw → S nw → St i h') ∧
    St 0 s₂.heap ∧ (∀ b ∈ fp, b < s₂.heap.objs.size) ∧ Fr h₀ L s₂.heap m ∧ News h₀ L s₂.heap news ∧ L ≠ I ∧ h₀.get? I = none ∧ (∀ p ∈ news, p.1 ≠ I) ∧ S news ∧ Rest s₂ S P n news

theorem ListComp_W {elt iter : Expr} {x : Str} {px : Pos} {scope : Scope} {cl : List (Str × Addr)} {pos : Pos} {Q : Value → Shared → Prop} (F₀u : Fr h₀ L s.heap m)
    (hclos : closureFor scope env = pure cl) (hcell : ∀ y ∈ scope.names, y.2 ≠ .cell) (hkind : scope.kind = .function)
    (hnames : ∀ y ∈ scope.names, y.2 = .local → scope.names.lookup y.1 = some .local) (hx : scope.names.lookup x = some .local)
    (h : wpAny (model prog w) A (eval iter env) (fun xv s₁ => wpAny (model prog w) A (pyIter xv) (SrcW prog w A h₀ L m fun s₂ S P n news => CompRest prog w A h₀ L m env elt x scope cl s₂ S P (FinE h₀ L m s₂ Q) n 0 [] news) E s₁) E s)
    (hs : ∀ x, foldedSetIterable iter env x = pure x := by intro _; rfl) :
    wpAny (model prog w) A (eval (.ListComp elt [⟨.Name x px, iter, [], 0⟩] scope pos) env) Q E s := by
  rw [eval_ListComp]
  refine wpAny_comprehension_free (use := none) rfl hs hclos hkind hnames (wpAny_mono h (fun xv s₁ h₁ => wpAny_mono h₁ (fun it s₂ h₂ => ?_) fun _ _ e => e) fun _ _ e => e)
  obtain ⟨I, fp, n, P, St, S, news, rfl, W, hsz, hIo, hSt, hst, hfp, F, N, hIL, hI₀, off, hS, R⟩ := h₂
  refine block_U W hsz hIo hSt hcell hkind hx hst hfp F N hIL hI₀ off hS R ?_
  intro D C h tk m' ys news' F' N' o1 hn hC₀ hD₀ hCL hDL hCD offC fin
  refine ⟨m', hn, fun h'' hs'' => fin D h'' tk (F'.change hs'' hCL hC₀) (fun p hp => ?_) o1⟩
  refine ⟨hs''.extBut _ _ ?_ (N' p hp).1, (N' p hp).2⟩
  rcases List.mem_cons.mp hp with rfl | hp
  · exact Ne.symm hCD
  · exact offC p hp

theorem ListComp_WT {ct elt iter : Expr} {x : Str} {px : Pos} {scope : Scope} {cl : List (Str × Addr)} {pos : Pos} {Q : Value → Shared → Prop} (F₀u : Fr h₀ L s.heap m)
    (hclos : closureFor scope env = pure cl) (hcell : ∀ y ∈ scope.names, y.2 ≠ .cell) (hkind : scope.kind = .function)
    (hnames : ∀ y ∈ scope.names, y.2 = .local → scope.names.lookup y.1 = some .local) (hx : scope.names.lookup x = some .local)
    (h : wpAny (model prog w) A (eval iter env) (fun xv s₁ => wpAny (model prog w) A (pyIter xv) (SrcW prog w A h₀ L m fun s₂ S P n news => CompRestT prog w A h₀ L m env ct elt x scope cl s₂ S P (FinE h₀ L m s₂ Q) n 0 [] news) E s₁) E s)
    (hs : ∀ x, foldedSetIterable iter env x = pure x := by intro _; rfl) :
    wpAny (model prog w) A (eval (.ListComp elt [⟨.Name x px, iter, [ct], 0⟩] scope pos) env) Q E s := by
  rw [eval_ListComp]
  refine wpAny_comprehension_free (use := none) rfl hs hclos hkind hnames (wpAny_mono h (fun xv s₁ h₁ => wpAny_mono h₁ (fun it s₂ h₂ => ?_) fun _ _ e => e) fun _ _ e => e)
  obtain ⟨I, fp, n, P, St, S, news, rfl, W, hsz, hIo, hSt, hst, hfp, F, N, hIL, hI₀, off, hS, R⟩ := h₂
  refine block_T W hsz hIo hSt hcell hkind hx hst hfp F N hIL hI₀ off hS R ?_
  intro D C h tk m' ys news' F' N' o1 hn hC₀ hD₀ hCL hDL hCD offC fin
  refine ⟨m', hn, fun h'' hs'' => fin D h'' tk (F'.change hs'' hCL hC₀) (fun p hp => ?_) o1⟩
  refine ⟨hs''.extBut _ _ ?_ (N' p hp).1, (N' p hp).2⟩
  rcases List.mem_cons.mp hp with rfl | hp
  · exact Ne.symm hCD
  · exact offC p hp

theorem Assign_W {elt iter : Expr} {x y : Str} {px py : Pos} {scope : Scope} {cl : List (Str × Addr)} {pos spos : Pos} {Q : Flow → Shared → Prop} (F₀u : Fr h₀ L s.heap m) (hLe : env.locals = L)
    (hsw : swapsWith (.ListComp elt [⟨.Name x px, iter, [], 0⟩] scope pos) (some (.Name y py)) spos.line env = pure true)
    (hclos : closureFor scope env = pure cl) (hcell : ∀ z ∈ scope.names, z.2 ≠ .cell) (hkind : scope.kind = .function)
    (hnames : ∀ z ∈ scope.names, z.2 = .local → scope.names.lookup z.1 = some .local) (hx : scope.names.lookup x = some .local)
    (hy : env.kindOf y = some .local) (hp : (env.scope.kind == .class || (env.scope.kind == .module && env.locals != env.globals)) = false)
    (h : wpAny (model prog w) A (eval iter env) (fun xv s₁ => wpAny (model prog w) A (pyIter xv) (SrcW prog w A h₀ L m fun s₂ S P n news => CompRest prog w A h₀ L m env elt x scope cl s₂ S P (FinA h₀ L m s₂ y Q) n 0 [] news) E s₁) E s)
    (hs : ∀ x, foldedSetIterable iter env x = pure x := by intro _; rfl) :
    wpAny (model prog w) A (exec (.Assign [.Name y py] (.ListComp elt [⟨.Name x px, iter, [], 0⟩] scope pos) spos) env) Q E s := by
  subst hLe
  rw [exec_Assign_Name_used _ _ _ _ hsw]
  refine wpAny_bind (wpAny_standAt (wpAny_bind ?_))
  show wpAny _ A (do let _ ← comprehension (.ListComp elt [⟨.Name x px, iter, [], 0⟩] scope pos) scope env _ (newList []) false (eval iter env) (some (assign (.Name y py) env))) _ _ s
  refine wpAny_bind (wpAny_mono (wpAny_comprehension_free (use := some (assign (.Name y py) env)) (Q := fun _ s' => Q .next s') rfl hs hclos hkind hnames
    (wpAny_mono h (fun xv s₁ h₁ => wpAny_mono h₁ (fun it s₂ h₂ => ?_) fun _ _ e => e) fun _ _ e => e)) (fun _ s' hq => wpAny_pure (wpAny_pure hq)) fun _ _ e => e)
  obtain ⟨I, fp, n, P, St, S, news, rfl, W, hsz, hIo, hSt, hst, hfp, F, N, hIL, hI₀, off, hS, R⟩ := h₂
  refine block_U W hsz hIo hSt hcell hkind hx hst hfp F N hIL hI₀ off hS R ?_
  intro D C h' tk m' ys news' F' N' o1 hn hC₀ hD₀ hCL hDL hCD offC fin
  show wpAny _ A (assign (.Name y py) env (.ref D)) _ _ _
  refine wpAny_assign_Name (wpAny_storeName_local hy F'.ns (fun h₂ hn₂ hs₂ => ?_) hp)
  have hL₀ : h₀.get? env.locals = none := Heap.get?_none_of_le F'.above
  have F₂ : Fr h₀ env.locals h₂ (fun z => if z = y then some (.ref D) else m z) := ⟨hn₂, fun b o e => hs₂.extBut b o (fun q => by rw [q, hL₀] at e; cases e) (F'.keep b o e), F'.above⟩
  refine ⟨m', hn.sameBut hs₂ hCL, fun h'' hs'' => fin D h'' _ (F₂.change hs'' hCL hC₀) (fun p hp => ?_) o1⟩
  have z : h₂.get? p.1 = some p.2 := hs₂.extBut _ _ (N' p hp).2.1 (N' p hp).1
  refine ⟨hs''.extBut _ _ ?_ z, (N' p hp).2⟩
  rcases List.mem_cons.mp hp with rfl | hp
  · exact Ne.symm hCD
  · exact offC p hp

theorem Assign_WT {ct elt iter : Expr} {x y : Str} {px py : Pos} {scope : Scope} {cl : List (Str × Addr)} {pos spos : Pos} {Q : Flow → Shared → Prop} (F₀u : Fr h₀ L s.heap m) (hLe : env.locals = L)
    (hsw : swapsWith (.ListComp elt [⟨.Name x px, iter, [ct], 0⟩] scope pos) (some (.Name y py)) spos.line env = pure true)
    (hclos : closureFor scope env = pure cl) (hcell : ∀ z ∈ scope.names, z.2 ≠ .cell) (hkind : scope.kind = .function)
    (hnames : ∀ z ∈ scope.names, z.2 = .local → scope.names.lookup z.1 = some .local) (hx : scope.names.lookup x = some .local)
    (hy : env.kindOf y = some .local) (hp : (env.scope.kind == .class || (env.scope.kind == .module && env.locals != env.globals)) = false)
    (h : wpAny (model prog w) A (eval iter env) (fun xv s₁ => wpAny (model prog w) A (pyIter xv) (SrcW prog w A h₀ L m fun s₂ S P n news => CompRestT prog w A h₀ L m env ct elt x scope cl s₂ S P (FinA h₀ L m s₂ y Q) n 0 [] news) E s₁) E s)
    (hs : ∀ x, foldedSetIterable iter env x = pure x := by intro _; rfl) :
    wpAny (model prog w) A (exec (.Assign [.Name y py] (.ListComp elt [⟨.Name x px, iter, [ct], 0⟩] scope pos) spos) env) Q E s := by
  subst hLe
  rw [exec_Assign_Name_used _ _ _ _ hsw]
  refine wpAny_bind (wpAny_standAt (wpAny_bind ?_))
  show wpAny _ A (do let _ ← comprehension (.ListComp elt [⟨.Name x px, iter, [ct], 0⟩] scope pos) scope env _ (newList []) false (eval iter env) (some (assign (.Name y py) env))) _ _ s
  refine wpAny_bind (wpAny_mono (wpAny_comprehension_free (use := some (assign (.Name y py) env)) (Q := fun _ s' => Q .next s') rfl hs hclos hkind hnames
    (wpAny_mono h (fun xv s₁ h₁ => wpAny_mono h₁ (fun it s₂ h₂ => ?_) fun _ _ e => e) fun _ _ e => e)) (fun _ s' hq => wpAny_pure (wpAny_pure hq)) fun _ _ e => e)
  obtain ⟨I, fp, n, P, St, S, news, rfl, W, hsz, hIo, hSt, hst, hfp, F, N, hIL, hI₀, off, hS, R⟩ := h₂
  refine block_T W hsz hIo hSt hcell hkind hx hst hfp F N hIL hI₀ off hS R ?_
  intro D C h' tk m' ys news' F' N' o1 hn hC₀ hD₀ hCL hDL hCD offC fin
  show wpAny _ A (assign (.Name y py) env (.ref D)) _ _ _
  refine wpAny_assign_Name (wpAny_storeName_local hy F'.ns (fun h₂ hn₂ hs₂ => ?_) hp)
  have hL₀ : h₀.get? env.locals = none := Heap.get?_none_of_le F'.above
  have F₂ : Fr h₀ env.locals h₂ (fun z => if z = y then some (.ref D) else m z) := ⟨hn₂, fun b o e => hs₂.extBut b o (fun q => by rw [q, hL₀] at e; cases e) (F'.keep b o e), F'.above⟩
  refine ⟨m', hn.sameBut hs₂ hCL, fun h'' hs'' => fin D h'' _ (F₂.change hs'' hCL hC₀) (fun p hp => ?_) o1⟩
  have z : h₂.get? p.1 = some p.2 := hs₂.extBut _ _ (N' p hp).2.1 (N' p hp).1
  refine ⟨hs''.extBut _ _ ?_ z, (N' p hp).2⟩
  rcases List.mem_cons.mp hp with rfl | hp
  · exact Ne.symm hCD
  · exact offC p hp

abbrev tupObj (its : Array Value) (n : Nat) : Obj := { cls := .type "tuple", data := .seq its n }
/-- a tuple of the ledger as a source -/
theorem src_tuple {Rest : Shared → (List (Addr × Obj) → Prop) → (Nat → Value → Prop) → Nat → List (Addr × Obj) → Prop} {ax : Addr} {its : Array Value} {k : Nat} {news : List (Addr × Obj)}
    (hh : A.handled = none) (F : Fr h₀ L s.heap m) (N : News h₀ L s.heap news) (hm : (ax, tupObj its k) ∈ news) (hsz : its.size ≤ sizeLine)
    (h : ∀ g, Rest { s with heap := g } (fun nw => (ax, tupObj its k) ∈ nw) (fun i v => its[i]? = some v) its.size news) :
    wpAny (model prog w) A (pyIter (.ref ax)) (SrcW prog w A h₀ L m Rest) E s := by
  have ht : s.heap.IsTuple ax its := ⟨_, (N _ hm).1, rfl, k, rfl⟩
  have hlt : ax < s.heap.objs.size := Heap.lt_size (N _ hm).1
  refine wpAny_pyIter_tuple ht ?_
  have up : ∀ b o, s.heap.get? b = some o → (s.heap.push { cls := .type "tuple_iterator", data := .fields #[.ref ax, .int 0 0] }).get? b = some o := fun b o e => Heap.get?_push_of_some _ e
  refine ⟨s.heap.objs.size, _, its.size, _, _, fun nw => (ax, tupObj its k) ∈ nw, news, rfl, Walks.tuple hh s.heap.objs.size ax (Nat.ne_of_lt hlt) its, hsz, fun i h st => by obtain ⟨o, e, _⟩ := st.1; exact ⟨o, e⟩,
    fun i h h' o nw st e e' _ N' S => ⟨by obtain ⟨o', q, r⟩ := st.1; rw [e] at q; cases q; exact ⟨o, e', r⟩, ⟨_, (N' _ S).1, rfl, k, rfl⟩⟩, ⟨⟨_, Heap.get?_push_size _ rfl, rfl, rfl⟩, ht.push _⟩, fun b hb => ?_,
    F.keeps up, N.grown up, Nat.ne_of_lt F.ns.lt, next_is_new F, fun p hp => Nat.ne_of_lt (Heap.lt_size (N p hp).1), hm, h _⟩
  show b < (s.heap.push _).objs.size
  rw [Heap.size_push]
  rcases List.mem_cons.mp hb with rfl | hb
  · exact Nat.lt_succ_self _
  · rw [List.mem_singleton.mp hb]; exact Nat.lt_succ_of_lt hlt
end

theorem in_comps {prog : Program} {w : World} {A : Around} {E : Value → Shared → Prop} {s : Shared} {h₀ : Heap} {L : Addr} {m : Str → Option Value} {t : Tok} {Q : Value → Shared → Prop}
    (F : Fr h₀ L s.heap m) (X : (Kf w.params).In h₀) (h : Q (.bool true) s) : wpAny (model prog w) A (compareOp .In (.str (Str.ofString ">") t) (.ref 299)) Q E s := by
  refine in_tuple_strs (items := [.str (Str.ofString "=") 593, .str (Str.ofString "<>") 594, .str (Str.ofString "<") 595, .str (Str.ofString ">") 596, .str (Str.ofString "<=") 597, .str (Str.ofString ">=") 598].toArray)
    (ys := [Str.ofString "=", Str.ofString "<>", Str.ofString "<", Str.ofString ">", Str.ofString "<=", Str.ofString ">="]) (tupK (n := 0) (dd := none) (sl := #[]) (X.keeps F.keep) (by kernel_rfl)) (by repeat constructor) ?_
  have e : ([Str.ofString "=", Str.ofString "<>", Str.ofString "<", Str.ofString ">", Str.ofString "<=", Str.ofString ">="].any (· == Str.ofString ">")) = true := by decide +kernel
  rw [e]; exact h
end Mine
end
section
-- C1
open PySem PySem.W PyProof.Rows PySem.Spec PySem.Calls PyProof.Rows.LCg PyProof.Rows.LCt
set_option maxRecDepth 100000
set_option maxHeartbeats 4000000
namespace Mine
local macro_rules | `(tactic| walk_at "no such key") => `(tactic| fail)
example : Kf = Kf ∧ PySem.Challenge.rw_xm0042_01 = PySem.Challenge.rw_xm0042_01 := by (k_fill; exact ⟨rfl, rfl⟩)

theorem text_of_ok (w : World) (news : List (Addr × Obj)) (x : Str) (t : Tok) : Ctr w 100 3 30 news [.str x t] (fun K => K (.str x t) news) := by
  intro mean mg mb dp un gd cn cs a ccd cl outer A₀ base h₀ L m s Q E B F X N T hk hdp hu hret
  refine wpAny_call ?_
  k_dflt cell_enter
  k_steps
  all_goals first
    | (refine hret _ _ ?_ ?_; (· k_asm); (first | k_asm | (refine cb_drop (by assumption) (fun p hp => ?_); first | exact hp | exact .tail _ hp | exact .tail _ (.tail _ hp) | exact .tail _ (.tail _ (.tail _ hp)) | exact .tail _ (.tail _ (.tail _ (.tail _ hp))))))
    | law_absurd
    | (refine hret _ _ ?_ ?_; (· k_asm); (first | k_asm | (refine cb_drop (by assumption) (fun p hp => ?_); first | exact hp | exact .tail _ hp | exact .tail _ (.tail _ hp) | exact .tail _ (.tail _ (.tail _ hp)) | exact .tail _ (.tail _ (.tail _ (.tail _ hp))))))

local macro_rules | `(tactic| walk_at "call ref") => `(tactic| (
  (with_reducible show wpAny _ _ (call (Value.ref 100) _) _ _ _)
  k_dflt (refine' text_of_ok _ _ _ _  _ _ _ _ _ _ _ _ _ _ _ _ _ _ _ _ _ _ _ _ ?k1 ?k2 ?k3 ?k4 ?k5 ?k6 ?k7 ?k8 ?_; (case k1 => k_asm); (case k2 => k_asm); (case k3 => k_asm); (case k4 => k_asm); (case k5 => k_asm); (case k6 => first | exact rfl | assumption);  (case k7 => ktr_room); (case k8 => ktr_units))
  (intro  h9 tk9 F9 N9)
  (try dsimp only)
  (try k_fold)))
theorem size_told_ok (w : World) (news : List (Addr × Obj)) (n : Int) (t : Tok) (h0 : 0 ≤ n) (h1 : n ≤ 255) : Ctr w 121 3 30 news [.int n t] (fun K => K (.int n t) news) := by
  intro mean mg mb dp un gd cn cs a ccd cl outer A₀ base h₀ L m s Q E B F X N T hk hdp hu hret
  refine wpAny_call ?_
  k_dflt cell_enter
  k_steps
  all_goals first
    | (refine hret _ _ ?_ ?_; (· k_asm); (first | k_asm | (refine cb_drop (by assumption) (fun p hp => ?_); first | exact hp | exact .tail _ hp | exact .tail _ (.tail _ hp) | exact .tail _ (.tail _ (.tail _ hp)) | exact .tail _ (.tail _ (.tail _ (.tail _ hp))))))
    | law_absurd
    | (refine hret _ _ ?_ ?_; (· k_asm); (first | k_asm | (refine cb_drop (by assumption) (fun p hp => ?_); first | exact hp | exact .tail _ hp | exact .tail _ (.tail _ hp) | exact .tail _ (.tail _ (.tail _ hp)) | exact .tail _ (.tail _ (.tail _ (.tail _ hp))))))

local macro_rules | `(tactic| walk_at "call ref") => `(tactic| (
  (with_reducible show wpAny _ _ (call (Value.ref 121) _) _ _ _)
  k_dflt (refine' size_told_ok _ _ _ _ ?h0 ?h1 _ _ _ _ _ _ _ _ _ _ _ _ _ _ _ _ _ _ _ _ ?k1 ?k2 ?k3 ?k4 ?k5 ?k6 ?k7 ?k8 ?_; (case k1 => k_asm); (case k2 => k_asm); (case k3 => k_asm); (case k4 => k_asm); (case k5 => k_asm); (case k6 => first | exact rfl | assumption); (case h0 => l_fact); (case h1 => l_fact); (case k7 => ktr_room); (case k8 => ktr_units))
  (intro  h9 tk9 F9 N9)
  (try dsimp only)
  (try k_fold)))
theorem place_told_ok (w : World) (news : List (Addr × Obj)) (n : Int) (t : Tok) (h0 : 1 ≤ n) (h1 : n ≤ 255) : Ctr w 128 6 60 news [.int n t] (fun K => K (.int n t) news) := by
  intro mean mg mb dp un gd cn cs a ccd cl outer A₀ base h₀ L m s Q E B F X N T hk hdp hu hret
  refine wpAny_call ?_
  k_dflt cell_enter
  k_steps
  all_goals first
    | (refine hret _ _ ?_ ?_; (· k_asm); (first | k_asm | (refine cb_drop (by assumption) (fun p hp => ?_); first | exact hp | exact .tail _ hp | exact .tail _ (.tail _ hp) | exact .tail _ (.tail _ (.tail _ hp)) | exact .tail _ (.tail _ (.tail _ (.tail _ hp))))))
    | law_absurd
    | (refine hret _ _ ?_ ?_; (· k_asm); (first | k_asm | (refine cb_drop (by assumption) (fun p hp => ?_); first | exact hp | exact .tail _ hp | exact .tail _ (.tail _ hp) | exact .tail _ (.tail _ (.tail _ hp)) | exact .tail _ (.tail _ (.tail _ (.tail _ hp))))))

local macro_rules | `(tactic| walk_at "call ref") => `(tactic| (
  (with_reducible show wpAny _ _ (call (Value.ref 128) _) _ _ _)
  k_dflt (refine' place_told_ok _ _ _ _ ?h0 ?h1 _ _ _ _ _ _ _ _ _ _ _ _ _ _ _ _ _ _ _ _ ?k1 ?k2 ?k3 ?k4 ?k5 ?k6 ?k7 ?k8 ?_; (case k1 => k_asm); (case k2 => k_asm); (case k3 => k_asm); (case k4 => k_asm); (case k5 => k_asm); (case k6 => first | exact rfl | assumption); (case h0 => l_fact); (case h1 => l_fact); (case k7 => ktr_room); (case k8 => ktr_units))
  (intro  h9 tk9 F9 N9)
  (try dsimp only)
  (try k_fold)))
theorem text_left_ok (w : World) (news : List (Addr × Obj)) (l : Addr) (k : Nat) (x : Str) (n : Int) (t t2 : Tok) (v : Value) (hx : x.length ≤ 255) (h0 : 0 ≤ n) (h1 : n ≤ 255) : Ctr w 135 6 60 ((l, listOf [Value.str x t, .int n t2].toArray k) :: news) [v, .ref l] (fun K => ∀ tr, K (.str (Txt.slice x none (some n)) tr) ((l, listOf [Value.str x t, .int n t2].toArray k) :: news)) := by
  intro mean mg mb dp un gd cn cs a ccd cl outer A₀ base h₀ L m s Q E B F X N T hk hdp hu hret
  refine wpAny_call ?_
  k_dflt cell_enter
  k_steps
  all_goals first
    | (refine hret _ _ _ ?_ ?_; (· k_asm); (first | k_asm | (refine cb_drop (by assumption) (fun p hp => ?_); first | exact hp | exact .tail _ hp | exact .tail _ (.tail _ hp) | exact .tail _ (.tail _ (.tail _ hp)) | exact .tail _ (.tail _ (.tail _ (.tail _ hp))))))
    | law_absurd
    | (refine hret _ _ _ ?_ ?_; (· k_asm); (first | k_asm | (refine cb_drop (by assumption) (fun p hp => ?_); first | exact hp | exact .tail _ hp | exact .tail _ (.tail _ hp) | exact .tail _ (.tail _ (.tail _ hp)) | exact .tail _ (.tail _ (.tail _ (.tail _ hp))))))

theorem text_mid_ok (w : World) (news : List (Addr × Obj)) (l : Addr) (k : Nat) (x : Str) (n n2 : Int) (t t2 t3 : Tok) (v : Value) (hx : x.length ≤ 255) (h0 : 1 ≤ n) (h1 : n ≤ 255) (h2 : 0 ≤ n2) (h3 : n2 ≤ 255) : Ctr w 142 9 90 ((l, listOf [Value.str x t, .int n t2, .int n2 t3].toArray k) :: news) [v, .ref l] (fun K => ∀ tr, K (.str (Txt.slice x (some (n - 1)) (some (n - 1 + n2))) tr) ((l, listOf [Value.str x t, .int n t2, .int n2 t3].toArray k) :: news)) := by
  intro mean mg mb dp un gd cn cs a ccd cl outer A₀ base h₀ L m s Q E B F X N T hk hdp hu hret
  refine wpAny_call ?_
  k_dflt cell_enter
  k_steps
  all_goals first
    | (refine hret _ _ _ ?_ ?_; (· k_asm); (first | k_asm | (refine cb_drop (by assumption) (fun p hp => ?_); first | exact hp | exact .tail _ hp | exact .tail _ (.tail _ hp) | exact .tail _ (.tail _ (.tail _ hp)) | exact .tail _ (.tail _ (.tail _ (.tail _ hp))))))
    | law_absurd
    | (refine hret _ _ _ ?_ ?_; (· k_asm); (first | k_asm | (refine cb_drop (by assumption) (fun p hp => ?_); first | exact hp | exact .tail _ hp | exact .tail _ (.tail _ hp) | exact .tail _ (.tail _ (.tail _ hp)) | exact .tail _ (.tail _ (.tail _ (.tail _ hp))))))

theorem text_mid2_ok (w : World) (news : List (Addr × Obj)) (l : Addr) (k : Nat) (x : Str) (n : Int) (t t2 : Tok) (v : Value) (hx : x.length ≤ 255) (h0 : 1 ≤ n) (h1 : n ≤ 255) : Ctr w 142 9 90 ((l, listOf [Value.str x t, .int n t2].toArray k) :: news) [v, .ref l] (fun K => ∀ tr, K (.str (Txt.slice x (some (n - 1)) (some (n - 1 + 255))) tr) ((l, listOf [Value.str x t, .int n t2].toArray k) :: news)) := by
  intro mean mg mb dp un gd cn cs a ccd cl outer A₀ base h₀ L m s Q E B F X N T hk hdp hu hret
  refine wpAny_call ?_
  k_dflt cell_enter
  k_steps
  all_goals first
    | (refine hret _ _ _ ?_ ?_; (· k_asm); (first | k_asm | (refine cb_drop (by assumption) (fun p hp => ?_); first | exact hp | exact .tail _ hp | exact .tail _ (.tail _ hp) | exact .tail _ (.tail _ (.tail _ hp)) | exact .tail _ (.tail _ (.tail _ (.tail _ hp))))))
    | law_absurd
    | (refine hret _ _ _ ?_ ?_; (· k_asm); (first | k_asm | (refine cb_drop (by assumption) (fun p hp => ?_); first | exact hp | exact .tail _ hp | exact .tail _ (.tail _ hp) | exact .tail _ (.tail _ (.tail _ hp)) | exact .tail _ (.tail _ (.tail _ (.tail _ hp))))))

theorem checked_ok (w : World) (news : List (Addr × Obj)) (x : Str) (t : Tok) (hx : x.length ≤ 255) : Ctr w 107 3 30 news [.str x t] (fun K => K (.str x t) news) := by
  intro mean mg mb dp un gd cn cs a ccd cl outer A₀ base h₀ L m s Q E B F X N T hk hdp hu hret
  refine wpAny_call ?_
  k_dflt cell_enter
  k_steps
  all_goals first
    | (refine hret _ _ ?_ ?_; (· k_asm); (first | k_asm | (refine cb_drop (by assumption) (fun p hp => ?_); first | exact hp | exact .tail _ hp | exact .tail _ (.tail _ hp) | exact .tail _ (.tail _ (.tail _ hp)) | exact .tail _ (.tail _ (.tail _ (.tail _ hp))))))
    | law_absurd
    | (refine hret _ _ ?_ ?_; (· k_asm); (first | k_asm | (refine cb_drop (by assumption) (fun p hp => ?_); first | exact hp | exact .tail _ hp | exact .tail _ (.tail _ hp) | exact .tail _ (.tail _ (.tail _ hp)) | exact .tail _ (.tail _ (.tail _ (.tail _ hp))))))

local macro_rules | `(tactic| walk_at "call ref") => `(tactic| (
  (with_reducible show wpAny _ _ (call (Value.ref 107) _) _ _ _)
  k_dflt (refine' checked_ok _ _ _ _ ?h0 _ _ _ _ _ _ _ _ _ _ _ _ _ _ _ _ _ _ _ _ ?k1 ?k2 ?k3 ?k4 ?k5 ?k6 ?k7 ?k8 ?_; (case k1 => k_asm); (case k2 => k_asm); (case k3 => k_asm); (case k4 => k_asm); (case k5 => k_asm); (case k6 => first | exact rfl | assumption); (case h0 => l_fact); (case k7 => ktr_room); (case k8 => ktr_units))
  (intro  h9 tk9 F9 N9)
  (try dsimp only)
  (try k_fold)))
theorem joined_ok (w : World) (news : List (Addr × Obj)) (x y : Str) (t t2 : Tok) (hx : x.length + y.length ≤ 255) : Ctr w 149 6 60 news [.str x t, .str y t2] (fun K => ∀ tr, K (.str (x ++ y) tr) news) := by
  intro mean mg mb dp un gd cn cs a ccd cl outer A₀ base h₀ L m s Q E B F X N T hk hdp hu hret
  refine wpAny_call ?_
  k_dflt cell_enter
  k_steps
  all_goals first
    | (refine hret _ _ _ ?_ ?_; (· k_asm); (first | k_asm | (refine cb_drop (by assumption) (fun p hp => ?_); first | exact hp | exact .tail _ hp | exact .tail _ (.tail _ hp) | exact .tail _ (.tail _ (.tail _ hp)) | exact .tail _ (.tail _ (.tail _ (.tail _ hp))))))
    | law_absurd
    | (refine hret _ _ _ ?_ ?_; (· k_asm); (first | k_asm | (refine cb_drop (by assumption) (fun p hp => ?_); first | exact hp | exact .tail _ hp | exact .tail _ (.tail _ hp) | exact .tail _ (.tail _ (.tail _ hp)) | exact .tail _ (.tail _ (.tail _ (.tail _ hp))))))

end Mine
end
section
-- C2
open PySem PySem.W PyProof.Rows PySem.Spec PySem.Calls PyProof.Rows.LCg PyProof.Rows.LCt
set_option maxRecDepth 100000
set_option maxHeartbeats 4000000
namespace Mine

theorem truth_ok (w : World) (news : List (Addr × Obj)) (b : Bool) : Ctr w 114 3 30 news [.bool b] (fun K => ∀ tr, K (.int (if b = true then -1 else 0) tr) news) := by
  intro mean mg mb dp un gd cn cs a ccd cl outer A₀ base h₀ L m s Q E B F X N T hk hdp hu hret
  cases b
  all_goals (
  refine wpAny_call ?_
  k_dflt cell_enter
  k_steps
  all_goals (refine hret _ _ _ ?_ ?_ <;> k_asm))

local macro_rules | `(tactic| walk_at "call ref") => `(tactic| (
  (with_reducible show wpAny _ _ (call (Value.ref 114) _) _ _ _)
  k_dflt (refine' truth_ok _ _ _  _ _ _ _ _ _ _ _ _ _ _ _ _ _ _ _ _ _ _ _ ?k1 ?k2 ?k3 ?k4 ?k5 ?k6 ?k7 ?k8 ?_; (case k1 => k_asm); (case k2 => k_asm); (case k3 => k_asm); (case k4 => k_asm); (case k5 => k_asm); (case k6 => first | exact rfl | assumption);  (case k7 => ktr_room); (case k8 => ktr_units))
  (intro tr9 h9 tk9 F9 N9)
  (try dsimp only)
  (try k_fold)))
theorem kind_ok (w : World) (news : List (Addr × Obj)) (x : Str) (t : Tok) : Ctr w 44 3 30 news [.str x t] (fun K => ∀ tr, K (.str (Str.ofString "text") tr) news) := by
  intro mean mg mb dp un gd cn cs a ccd cl outer A₀ base h₀ L m s Q E B F X N T hk hdp hu hret
  refine wpAny_call ?_
  k_dflt cell_enter
  k_steps
  all_goals first
    | (refine hret _ _ _ ?_ ?_; (· k_asm); (first | k_asm | (refine cb_drop (by assumption) (fun p hp => ?_); first | exact hp | exact .tail _ hp | exact .tail _ (.tail _ hp) | exact .tail _ (.tail _ (.tail _ hp)) | exact .tail _ (.tail _ (.tail _ (.tail _ hp))))))
    | law_absurd
    | (refine hret _ _ _ ?_ ?_; (· k_asm); (first | k_asm | (refine cb_drop (by assumption) (fun p hp => ?_); first | exact hp | exact .tail _ hp | exact .tail _ (.tail _ hp) | exact .tail _ (.tail _ (.tail _ hp)) | exact .tail _ (.tail _ (.tail _ (.tail _ hp))))))

local macro_rules | `(tactic| walk_at "call ref") => `(tactic| (
  (with_reducible show wpAny _ _ (call (Value.ref 44) _) _ _ _)
  k_dflt (refine' kind_ok _ _ _ _  _ _ _ _ _ _ _ _ _ _ _ _ _ _ _ _ _ _ _ _ ?k1 ?k2 ?k3 ?k4 ?k5 ?k6 ?k7 ?k8 ?_; (case k1 => k_asm); (case k2 => k_asm); (case k3 => k_asm); (case k4 => k_asm); (case k5 => k_asm); (case k6 => first | exact rfl | assumption);  (case k7 => ktr_room); (case k8 => ktr_units))
  (intro tr9 h9 tk9 F9 N9)
  (try dsimp only)
  (try k_fold)))
def gtS (x y : Str) : Bool := decide (y.cps.toList < x.cps.toList)
theorem gtS_asymm {x y : Str} (h : gtS x y = true) : gtS y x = false := by
  unfold gtS at *
  have h1 := of_decide_eq_true h
  exact decide_eq_false (fun h2 => List.lt_asymm h1 h2)
theorem order_pos (x y : Str) : (0 < b2i (gtS x y) - b2i (gtS y x)) ↔ gtS x y = true := by
  cases h : gtS x y with
  | true => rw [gtS_asymm h]; decide
  | false => cases gtS y x <;> decide
theorem gt_gt : (Str.ofString ">" == Str.ofString ">") = true := by decide +kernel
theorem order_ok (w : World) (news : List (Addr × Obj)) (x y : Str) (t t2 : Tok) : Ctr w 306 3 30 news [.str x t, .str y t2] (fun K => ∀ tr, K (.int (b2i (gtS x y) - b2i (gtS y x)) tr) news) := by
  intro mean mg mb dp un gd cn cs a ccd cl outer A₀ base h₀ L m s Q E B F X N T hk hdp hu hret
  refine wpAny_call ?_
  k_dflt cell_enter
  k_steps
  all_goals first
    | (refine hret _ _ _ ?_ ?_; (· k_asm); (first | k_asm | (refine cb_drop (by assumption) (fun p hp => ?_); first | exact hp | exact .tail _ hp | exact .tail _ (.tail _ hp) | exact .tail _ (.tail _ (.tail _ hp)) | exact .tail _ (.tail _ (.tail _ (.tail _ hp))))))
    | law_absurd
    | (refine hret _ _ _ ?_ ?_; (· k_asm); (first | k_asm | (refine cb_drop (by assumption) (fun p hp => ?_); first | exact hp | exact .tail _ hp | exact .tail _ (.tail _ hp) | exact .tail _ (.tail _ (.tail _ hp)) | exact .tail _ (.tail _ (.tail _ (.tail _ hp))))))

local macro_rules | `(tactic| walk_at "call ref") => `(tactic| (
  (with_reducible show wpAny _ _ (call (Value.ref 306) _) _ _ _)
  k_dflt (refine' order_ok _ _ _ _ _ _  _ _ _ _ _ _ _ _ _ _ _ _ _ _ _ _ _ _ _ _ ?k1 ?k2 ?k3 ?k4 ?k5 ?k6 ?k7 ?k8 ?_; (case k1 => k_asm); (case k2 => k_asm); (case k3 => k_asm); (case k4 => k_asm); (case k5 => k_asm); (case k6 => first | exact rfl | assumption);  (case k7 => ktr_room); (case k8 => ktr_units))
  (intro tr9 h9 tk9 F9 N9)
  (try dsimp only)
  (try k_fold)))
theorem compared_ok (w : World) (news : List (Addr × Obj)) (n : Int) (t t2 : Tok) : Ctr w 313 6 60 news [.str (Str.ofString ">") t, .int n t2] (fun K => ∀ tr, K (.int (if 0 < n then -1 else 0) tr) news) := by
  intro mean mg mb dp un gd cn cs a ccd cl outer A₀ base h₀ L m s Q E B F X N T hk hdp hu hret
  have e : (if (decide (0 < n) == (Str.ofString ">" == Str.ofString ">")) = true then (-1 : Int) else 0) = if 0 < n then -1 else 0 := by rw [gt_gt]; by_cases h : 0 < n <;> simp [h]
  rw [← e] at hret
  refine wpAny_call ?_
  k_dflt cell_enter
  k_steps
  all_goals first
    | (refine hret _ _ _ ?_ ?_; (· k_asm); (first | k_asm | (refine cb_drop (by assumption) (fun p hp => ?_); first | exact hp | exact .tail _ hp | exact .tail _ (.tail _ hp) | exact .tail _ (.tail _ (.tail _ hp)) | exact .tail _ (.tail _ (.tail _ (.tail _ hp))))))
    | law_absurd
    | (refine hret _ _ _ ?_ ?_; (· k_asm); (first | k_asm | (refine cb_drop (by assumption) (fun p hp => ?_); first | exact hp | exact .tail _ hp | exact .tail _ (.tail _ hp) | exact .tail _ (.tail _ (.tail _ hp)) | exact .tail _ (.tail _ (.tail _ (.tail _ hp))))))

local macro_rules | `(tactic| walk_at "call ref") => `(tactic| (
  (with_reducible show wpAny _ _ (call (Value.ref 313) _) _ _ _)
  k_dflt (refine' compared_ok _ _ _ _ _  _ _ _ _ _ _ _ _ _ _ _ _ _ _ _ _ _ _ _ _ ?k1 ?k2 ?k3 ?k4 ?k5 ?k6 ?k7 ?k8 ?_; (case k1 => k_asm); (case k2 => k_asm); (case k3 => k_asm); (case k4 => k_asm); (case k5 => k_asm); (case k6 => first | exact rfl | assumption);  (case k7 => ktr_room); (case k8 => ktr_units))
  (intro tr9 h9 tk9 F9 N9)
  (try dsimp only)
  (try k_fold)))
local macro_rules | `(tactic| walk_at "compareOp In str ref") => `(tactic| (k_here; refine in_comps (by k_asm) (by k_asm) ?_))
theorem worth_texts_ok (w : World) (news : List (Addr × Obj)) (x y : Str) (t t2 t3 : Tok) : Ctr w 320 9 90 news [.str (Str.ofString ">") t, .str x t2, .str y t3] (fun K => ∀ tr, K (.int (if gtS x y = true then -1 else 0) tr) news) := by
  intro mean mg mb dp un gd cn cs a ccd cl outer A₀ base h₀ L m s Q E B F X N T hk hdp hu hret
  have e : (if 0 < b2i (gtS x y) - b2i (gtS y x) then (-1 : Int) else 0) = if gtS x y = true then -1 else 0 := by simp only [order_pos]
  rw [← e] at hret
  refine wpAny_call ?_
  k_dflt cell_enter
  k_steps
  all_goals first
    | (refine hret _ _ _ ?_ ?_; (· k_asm); (first | k_asm | (refine cb_drop (by assumption) (fun p hp => ?_); first | exact hp | exact .tail _ hp | exact .tail _ (.tail _ hp) | exact .tail _ (.tail _ (.tail _ hp)) | exact .tail _ (.tail _ (.tail _ (.tail _ hp))))))
    | law_absurd
    | (refine hret _ _ _ ?_ ?_; (· k_asm); (first | k_asm | (refine cb_drop (by assumption) (fun p hp => ?_); first | exact hp | exact .tail _ hp | exact .tail _ (.tail _ hp) | exact .tail _ (.tail _ (.tail _ hp)) | exact .tail _ (.tail _ (.tail _ (.tail _ hp))))))

local macro_rules | `(tactic| walk_at "call ref") => `(tactic| (
  (with_reducible show wpAny _ _ (call (Value.ref 320) _) _ _ _)
  k_dflt (refine' worth_texts_ok _ _ _ _ _ _ _  _ _ _ _ _ _ _ _ _ _ _ _ _ _ _ _ _ _ _ _ ?k1 ?k2 ?k3 ?k4 ?k5 ?k6 ?k7 ?k8 ?_; (case k1 => k_asm); (case k2 => k_asm); (case k3 => k_asm); (case k4 => k_asm); (case k5 => k_asm); (case k6 => first | exact rfl | assumption);  (case k7 => ktr_room); (case k8 => ktr_units))
  (intro tr9 h9 tk9 F9 N9)
  (try dsimp only)
  (try k_fold)))
local macro_rules | `(tactic| walk_at "exec Assign cons ListComp") => `(tactic| (k_here; k_dflt (refine Assign_W (by k_asm) (by rfl) (by with_unfolding_all rfl) (by with_unfolding_all rfl) (by decide) (by rfl) (by decide) (by rfl) (by rfl) (by rfl) ?_)))
local macro_rules | `(tactic| walk_at "pyIter ref") => `(tactic| (k_here; k_dflt (refine src_tuple (by rfl) (by k_asm) (by k_asm) (by k_mem) (by exact Nat.le_of_ble_eq_true rfl) ?_); intro g'; (try dsimp only); lcg_lit))
local macro_rules | `(tactic| walk_at "CompRest") => `(tactic| (with_unfolding_all first
  | (refine LCg.CompRest.succ ?_; intro v' I' oI' C' oC' D' m' h' tk' E' hv' hC' hx' F' N' off' ne'; lcg_open hv')
  | refine LCg.CompRest.zero ?_))
local macro_rules | `(tactic| walk_at "CompEnd") => `(tactic| (refine LCg.CompEnd.intro (by assumption) (by assumption) _ ?sub (by assumption) ?S ?_; (case sub => exact fun p hp => hp); (case S => k_mem)))
local macro_rules | `(tactic| walk_at "FinA") => `(tactic| ((unfold LCg.FinA); intro D' h' tk' F' N' o1'; (try simp only [List.nil_append, List.cons_append] at N'); (try dsimp only)))
theorem worth_ok (w : World) (news : List (Addr × Obj)) (x y : Str) (a1 a2 : Int) (t t2 t3 t4 t5 : Tok) : Ctr w 325 12 120 news [.str (Str.ofString ">") t, .str x t2, .str y t3, .int a1 t4, .int a2 t5] (fun K => ∀ tr, K (.int (if gtS x y = true then -1 else 0) tr) news) := by
  intro mean mg mb dp un gd cn cs a ccd cl outer A₀ base h₀ L m s Q E B F X N T hk hdp hu hret
  refine wpAny_call ?_
  k_dflt cell_enter
  k_steps
  all_goals first
    | (refine hret _ _ _ ?_ ?_; (· k_asm); (first | k_asm | (refine cb_drop (by assumption) (fun p hp => ?_); first | exact hp | exact .tail _ hp | exact .tail _ (.tail _ hp) | exact .tail _ (.tail _ (.tail _ hp)) | exact .tail _ (.tail _ (.tail _ (.tail _ hp))))))
    | law_absurd
    | (refine hret _ _ _ ?_ ?_; (· k_asm); (first | k_asm | (refine cb_drop (by assumption) (fun p hp => ?_); first | exact hp | exact .tail _ hp | exact .tail _ (.tail _ hp) | exact .tail _ (.tail _ (.tail _ hp)) | exact .tail _ (.tail _ (.tail _ (.tail _ hp))))))

end Mine
end
section
-- C9
open PySem PySem.W PyProof.Rows PySem.Spec PySem.Calls PyProof.Rows.LCg PyProof.Rows.LCt
set_option maxRecDepth 100000
set_option maxHeartbeats 4000000
namespace Mine

theorem rest_lo (x : Int) {b : Int} (h : 1 ≤ b) : 0 ≤ x.fmod b := by rw [Int.fmod_eq_emod_of_nonneg _ (by omega)]; exact Int.emod_nonneg _ (by omega)
theorem rest_hi (x : Int) {b : Int} (h : 1 ≤ b) : x.fmod b < b := by rw [Int.fmod_eq_emod_of_nonneg _ (by omega)]; exact Int.emod_lt_of_pos _ (by omega)
theorem bag_off {bg d5 : Addr} {o : Obj} {news : List (Addr × Obj)} (h : d5 ≠ bg) (hg : ∀ p ∈ news, p.1 ≠ bg) : ∀ p ∈ (d5, o) :: news, p.1 ≠ bg := fun p hp => by
  rcases List.mem_cons.mp hp with rfl | hp
  · exact h
  · exact hg p hp
theorem bag_set {prog : Program} {w : World} {A : Around} {E : Value → Shared → Prop} {s : Shared} {h₀ : Heap} {L bg d5 : Addr} {m : Str → Option Value} {rest : List (Addr × Obj)} {n : Nat} {i j : Int} {t u v : Tok} {Q : Unit → Shared → Prop}
    (F : Fr h₀ L s.heap m) (N : News h₀ L s.heap ((bg, listOf [Value.ref d5, .int i t].toArray n) :: rest)) (off : ∀ p ∈ rest, p.1 ≠ bg)
    (h : ∀ h', Fr h₀ L h' m → News h₀ L h' ((bg, listOf [Value.ref d5, .int j u].toArray n) :: rest) → Q () { s with heap := h' }) : wpAny (model prog w) A (setItem (.ref bg) (.int 1 v) (.int j u)) Q E s := by
  have z := N _ (.head _)
  refine ki_setAt z.1 (by decide) (by decide) (by show (1 : Int) < ((2 : Nat) : Int); decide) (h _ (F.change (Heap.SameBut.update ..) z.2.1 z.2.2) (ki_turn (pre := []) _ N (by intro p hp; cases hp) off ?_ ?_))
  · rfl
  · rfl
local macro_rules | `(tactic| walk_at "setItem ref int") => `(tactic| k_extra "setItem ref int")
theorem next_one_ok (w : World) (news : List (Addr × Obj)) (bg d5 : Addr) (n k5 : Nat) (vs : List Value) (ns : List Int) (i b : Int) (t t2 : Tok) (hn : IntsAre vs ns) (hl : ns.length ≤ 5) (hi0 : 0 ≤ i) (hi1 : i ≤ 9) (hb0 : 1 ≤ b) (hb1 : b ≤ 5) (hne : d5 ≠ bg) (hg : ∀ p ∈ news, p.1 ≠ bg) : Ctr w 332 4 60 ((bg, listOf [Value.ref d5, .int i t].toArray n) :: (d5, listOf vs.toArray k5) :: news) [.ref bg, .int b t2] (fun K => ∀ k tr t' n', 0 ≤ k → k < b → K (.int k tr) ((bg, listOf [Value.ref d5, .int (i + 1) t'].toArray n') :: (d5, listOf vs.toArray k5) :: news)) := by
  intro mean mg mb dp un gd cn cs a ccd cl outer A₀ base h₀ L m s Q E B F X N T hk hdp hu hret
  k_with_none
  (k_with "setItem ref int" => (k_dflt (refine bag_set (by k_asm) (by k_asm) (bag_off hne hg) ?_); intro h9' F9' N9'))
  refine wpAny_call ?_
  k_dflt cell_enter
  k_steps
  all_goals (refine' hret _ _ _ _ (rest_lo _ hb0) (rest_hi _ hb0) _ _ ?zf ?zn; (case zf => k_asm); (case zn => k_asm))

end Mine
end
section
-- Pu
open PySem PySem.W PyProof.Rows PySem.Spec PySem.Calls PyProof
set_option maxRecDepth 100000
namespace Mine
/-- a text by its signs -/
def S (l : List Nat) : Str := ⟨l.toArray⟩
theorem S_length (l : List Nat) : (S l).length = l.length := by unfold S Str.length; simp
theorem S_append (a b : List Nat) : S a ++ S b = S (a ++ b) := by
  show (⟨a.toArray ++ b.toArray⟩ : Str) = ⟨(a ++ b).toArray⟩
  simp
theorem S_cps (l : List Nat) : (S l).cps = l.toArray := rfl
theorem pick_range (l : List Nat) (a k : Nat) (h : a + k ≤ l.length) : ((List.range k).map fun i => a + i).filterMap (l[·]?) = (l.drop a).take k := by
  induction k with
  | zero => simp
  | succ k ih =>
    rw [List.range_succ, List.map_append, List.filterMap_append, ih (by omega)]
    have h1 : a + k < l.length := by omega
    rw [List.take_add_one]
    congr 1
    simp [List.getElem?_drop, h1]
theorem slice_S (l : List Nat) (x y : Option Int) (a k : Nat) (h : a + k ≤ l.length) (e : PySem.Builtin.Str.strSliceIndices x y 1 l.length = (List.range k).map fun i => a + i) : Txt.slice (S l) x y = S ((l.drop a).take k) := by
  unfold Txt.slice
  rw [S_length, e]
  split
  · rename_i q
    simp only [beq_self_eq_true, Bool.true_and, List.length_map, List.length_range, beq_iff_eq] at q
    have : a = 0 := by omega
    subst this
    simp [List.take_of_length_le (Nat.le_of_eq q.symm)]
  · rw [S_cps]
    show (⟨(List.filterMap (fun i => l.toArray[i]?) _).toArray⟩ : Str) = ⟨_⟩
    congr 2
    rw [← pick_range l a k h]
    simp
theorem range_one (a b : Int) (h0 : 0 ≤ a) : PySem.sliceRange a b 1 = (List.range (b - a).toNat).map fun i => a.toNat + i := by
  unfold PySem.sliceRange
  simp only [show (1 : Int) > 0 by decide, if_true, Int.ediv_one, Int.one_mul]
  have e : (if a < b then b - a + 1 - 1 else 0).toNat = (b - a).toNat := by split <;> omega
  rw [e]
  apply List.map_congr_left
  intro i _
  omega
theorem slice_left (l : List Nat) (n : Int) (h0 : 0 ≤ n) : Txt.slice (S l) none (some n) = S (l.take n.toNat) := by
  have hk : ((min n.toNat l.length : Nat) : Int) = min n l.length := by omega
  rw [slice_S l none (some n) 0 (min n.toNat l.length) (by omega)]
  · rw [List.drop_zero]; congr 1
    rcases Nat.le_total n.toNat l.length with h | h
    · rw [Nat.min_eq_left h]
    · rw [Nat.min_eq_right h, List.take_of_length_le (Nat.le_refl _), List.take_of_length_le h]
  · unfold PySem.Builtin.Str.strSliceIndices
    simp only [show (1 : Int) > 0 by decide, if_true]
    rw [if_neg (by omega), range_one _ _ (by omega)]
    congr 2
    omega
theorem clip_nat (a n : Nat) : max (0 : Int) (min (a : Int) (n : Int)) = ((min a n : Nat) : Int) := by omega
theorem clip_top (n : Nat) : (n : Int) = ((min n n : Nat) : Int) := by rw [Nat.min_self]
theorem range_nat (a b : Nat) : PySem.sliceRange (a : Int) (b : Int) 1 = (List.range (b - a)).map fun i => a + i := by
  rw [range_one _ _ (Int.natCast_nonneg a), Int.toNat_sub, Int.toNat_natCast]
theorem nat_not (a : Nat) : ¬ ((a : Int) < 0) := Int.not_lt.mpr (Int.natCast_nonneg a)
theorem mid_nat (l : List Nat) (a b : Nat) (h1 : a ≤ b) : Txt.slice (S l) (some (a : Int)) (some (b : Int)) = S ((l.take b).drop a) := by
  have hab : min a l.length ≤ min b l.length := Nat.le_min.mpr ⟨Nat.le_trans (Nat.min_le_left ..) h1, Nat.min_le_right ..⟩
  rw [slice_S l (some (a : Int)) (some (b : Int)) (min a l.length) (min b l.length - min a l.length) (by rw [Nat.add_sub_cancel' hab]; exact Nat.min_le_right ..)]
  · congr 1
    rw [← List.drop_take, List.take_eq_take_min (l := l) (i := b)]
    rcases Nat.le_total a l.length with q | q
    · rw [Nat.min_eq_left q]
    · rw [Nat.min_eq_right q, List.drop_of_length_le (by rw [List.length_take]; exact Nat.min_le_right ..), List.drop_of_length_le (by rw [List.length_take]; exact Nat.le_trans (Nat.min_le_right ..) q)]
  · unfold PySem.Builtin.Str.strSliceIndices
    simp only [show (1 : Int) > 0 by decide, if_true]
    rw [if_neg (nat_not a), if_neg (nat_not b), clip_nat, clip_nat, range_nat]
theorem slice_mid (l : List Nat) (a b : Int) (h0 : 0 ≤ a) (h1 : a ≤ b) : Txt.slice (S l) (some a) (some b) = S ((l.take b.toNat).drop a.toNat) := by
  obtain ⟨a, rfl⟩ := Int.eq_ofNat_of_zero_le h0
  obtain ⟨b, rfl⟩ := Int.eq_ofNat_of_zero_le (Int.le_trans h0 h1)
  exact mid_nat l a b (Int.ofNat_le.mp h1)
theorem from_nat (l : List Nat) (a : Nat) : Txt.slice (S l) (some (a : Int)) none = S (l.drop a) := by
  have hab : min a l.length ≤ l.length := Nat.min_le_right ..
  rw [slice_S l (some (a : Int)) none (min a l.length) (l.length - min a l.length) (by rw [Nat.add_sub_cancel' hab]; exact Nat.le_refl _)]
  · congr 1
    rw [List.take_of_length_le (by rw [List.length_drop]; exact Nat.le_refl _)]
    rcases Nat.le_total a l.length with q | q
    · rw [Nat.min_eq_left q]
    · rw [Nat.min_eq_right q, List.drop_of_length_le (Nat.le_refl _), List.drop_of_length_le q]
  · unfold PySem.Builtin.Str.strSliceIndices
    simp only [show (1 : Int) > 0 by decide, if_true]
    rw [if_neg (nat_not a), clip_nat, range_nat]
theorem slice_from (l : List Nat) (a : Int) (h0 : 0 ≤ a) : Txt.slice (S l) (some a) none = S (l.drop a.toNat) := by
  obtain ⟨a, rfl⟩ := Int.eq_ofNat_of_zero_le h0
  exact from_nat l a
end Mine
end
section
-- Rl
open PySem PySem.W PyProof.Rows PySem.Spec PySem.Calls PyProof
set_option maxRecDepth 100000
set_option maxHeartbeats 4000000
namespace Mine
abbrev RT := List (List Nat × Tok)
def tv (rt : RT) : List Value := rt.map fun p => .str (S p.1) p.2
abbrev rowsO (rt : RT) (n : Nat) : Obj := listOf (tv rt).toArray n
theorem tv_length (rt : RT) : (tv rt).length = rt.length := by unfold tv; simp
theorem tv_get {rt : RT} {k : Nat} {r : List Nat} {t : Tok} (h : rt[k]? = some (r, t)) : (tv rt).toArray[k]? = some (.str (S r) t) := by unfold tv; simp [h]
theorem tv_set (rt : RT) (k : Nat) (r : List Nat) (t : Tok) : (tv rt).set k (.str (S r) t) = tv (rt.set k (r, t)) := by unfold tv; rw [List.map_set]
theorem tv_append (a b : RT) : tv (a ++ b) = tv a ++ tv b := by unfold tv; simp
theorem tv_push (rt : RT) (r : List Nat) (t : Tok) : (tv rt).toArray.push (.str (S r) t) = (tv (rt ++ [(r, t)])).toArray := by rw [tv_append]; simp [tv]
theorem rt_get {rt : RT} {k : Int} (h0 : 0 ≤ k) (h1 : k < rt.length) : ∃ r t, rt[k.toNat]? = some (r, t) := by
  have h : k.toNat < rt.length := by omega
  exact ⟨rt[k.toNat].1, rt[k.toNat].2, by rw [List.getElem?_eq_getElem h]⟩
section
variable {prog : Program} {w : World} {A : Around} {E : Value → Shared → Prop} {s : Shared} {h₀ : Heap} {L d : Addr} {m : Str → Option Value} {led led' : List (Addr × Obj)} {rt : RT} {n : Nat} {k : Int} {t u : Tok} {r : List Nat}
theorem rl_isList (N : News h₀ L s.heap led) (hm : (d, rowsO rt n) ∈ led) : s.heap.IsList d (tv rt).toArray := ⟨_, (N _ hm).1, rfl, n, rfl⟩
theorem rl_len {Q : Value → Shared → Prop} (N : News h₀ L s.heap led) (hm : (d, rowsO rt n) ∈ led) (hz : rt.length ≤ 1000) (h : Q (.int rt.length (s.toks + 1)) { s with toks := s.toks + 1 + 1 }) : wpAny (model prog w) A (call (.builtin "len") [.ref d]) Q E s := by
  have hs : (tv rt).toArray.size = rt.length := by rw [List.size_toArray, tv_length]
  refine Calls.call_len_list (rl_isList N hm) (by rw [hs]; omega) ?_
  rw [hs]; exact h
theorem rl_item {value slice : PySem.Expr} {Q : Value → Shared → Prop} (N : News h₀ L s.heap led) (hm : (d, rowsO rt n) ∈ led) (hz : rt.length ≤ 1000) (h0 : 0 ≤ k) (h1 : k < rt.length) (h : ∀ r t, rt[k.toNat]? = some (r, t) → Q (.str (S r) t) s)
    (hs : subscripted slice false (.ref d) (.int k u) = operate [.ref d, .int k u] (getItem (.ref d) (.int k u)) := by with_unfolding_all rfl) :
    wpAny (model prog w) A (subscriptTail value slice (.ref d) (.int k u)) Q E s := by
  obtain ⟨r, t, e⟩ := rt_get h0 h1
  exact tail_any (rl_isList N hm).typeIs slot_list_getitem.lookup (wpAny_getItem_list (rl_isList N hm) h0 (by omega) (tv_get e) (h r t e)) hs
theorem rl_set {Q : Unit → Shared → Prop} (F : Fr h₀ L s.heap m) (N : News h₀ L s.heap led) (U : Upd d (rowsO rt n) (rowsO (rt.set k.toNat (r, u)) n) led led') (hz : rt.length ≤ 1000) (h0 : 0 ≤ k) (h1 : k < rt.length)
    (h : ∀ h', Fr h₀ L h' m → News h₀ L h' led' → Q () { s with heap := h' }) : wpAny (model prog w) A (setItem (.ref d) (.int k t) (.str (S r) u)) Q E s := by
  obtain ⟨pre, post, rfl, rfl, a, b⟩ := U.split
  have z := N (d, rowsO rt n) (List.mem_append.mpr (.inr (.head _)))
  have hs : (tv rt).toArray.size = rt.length := by rw [List.size_toArray, tv_length]
  refine ki_setAt z.1 h0 (by omega) (by omega) (h _ (F.change (Heap.SameBut.update ..) z.2.1 z.2.2) (ki_turn _ N a b ?_ ?_))
  · show (tv rt).toArray.setIfInBounds k.toNat (.str (S r) u) = _
    apply Array.toList_inj.mp
    simp [tv_set]
  · simp [tv_length]
theorem rl_append {Q : Value → Shared → Prop} (F : Fr h₀ L s.heap m) (N : News h₀ L s.heap led) (U : Upd d (rowsO rt n) (rowsO (rt ++ [(r, u)]) (n + 1)) led led') (hz : rt.length ≤ 1000)
    (h : ∀ h', Fr h₀ L h' m → News h₀ L h' led' → Q .none { s with heap := h' }) : wpAny (model prog w) A (call (.builtin "list.append") [.ref d, .str (S r) u]) Q E s := by
  refine append_K F N (by rw [tv_push]; exact U) h ?_
  rw [List.size_toArray, tv_length, sizeLine_eq]; omega
theorem rl_pop {Q : Value → Shared → Prop} {p : List Nat × Tok} (F : Fr h₀ L s.heap m) (N : News h₀ L s.heap led) (U : Upd d (rowsO (rt ++ [p]) n) (rowsO rt (n + 1)) led led') (hz : rt.length ≤ 1000)
    (h : ∀ h', Fr h₀ L h' m → News h₀ L h' led' → Q (.str (S p.1) p.2) { s with heap := h' }) : wpAny (model prog w) A (call (.builtin "list.pop") [.ref d]) Q E s := by
  have e : kl_last (tv (rt ++ [p])).toArray.toList = some (tv rt, .str (S p.1) p.2) := by
    rw [tv_append]
    have : ∀ (l : List Value) (v : Value), kl_last (l ++ [v]) = some (l, v) := by
      intro l v
      induction l with
      | nil => rfl
      | cons a l ih => cases l with
        | nil => rfl
        | cons b l => simp only [List.cons_append, kl_last] at ih ⊢; rw [ih]
    exact this _ _
  refine kl_pop F N e U ?_ h
  rw [show (tv (rt ++ [p])).toArray.toList = tv (rt ++ [p]) from rfl, tv_length, List.length_append, sizeLine_eq]
  simp; omega
/-- the sign at a place -/
theorem item_S (x : List Nat) (i : Int) (h0 : 0 ≤ i) (h1 : i < x.length) : Txt.item (S x) i = S [x.getD i.toNat 0] := by
  unfold Txt.item S
  have e : Txt.charAt ⟨x.toArray⟩ i = some (x.getD i.toNat 0) := by
    unfold Txt.charAt
    have h : i.toNat < x.length := by omega
    have hn : ¬ i < 0 := by omega
    simp [Str.length, seqIndex?, hn, h0, h1, h, List.getD]
  rw [e]; rfl
theorem item_last (x : List Nat) (h : x ≠ []) : Txt.item (S x) (-1) = S [x.getLastD 0] := by
  unfold Txt.item S
  have h0 : 0 < x.length := List.length_pos_iff.mpr h
  have e : Txt.charAt ⟨x.toArray⟩ (-1) = some (x.getLastD 0) := by
    unfold Txt.charAt
    have h1 : (0 : Int) ≤ -1 + ↑x.length ∧ (-1 : Int) + ↑x.length < ↑x.length := by omega
    have h2 : ((-1 : Int) + ↑x.length).toNat = x.length - 1 := by omega
    simp [Str.length, seqIndex?]
    rw [if_pos h1, h2]
    simp [List.getLast?_eq_getElem?]
    rw [List.getElem?_eq_getElem (by omega)]; rfl
  rw [e]; rfl
theorem str_item {value slice : PySem.Expr} {x : List Nat} {i : Int} {Q : Value → Shared → Prop} (hb : x.length ≤ 1000) (h0 : 0 ≤ i) (h1 : i < x.length) (h : Q (.str (S [x.getD i.toNat 0]) s.toks) { s with toks := s.toks + 1 })
    (hs : subscripted slice false (.str (S x) t) (.int i u) = operate [.str (S x) t, .int i u] (getItem (.str (S x) t) (.int i u)) := by with_unfolding_all rfl)
    (ht : ∀ r, letTemporaryGo value (.str (S x) t) r = pure () := by intro _; with_unfolding_all rfl) :
    wpAny (model prog w) A (subscriptTail value slice (.str (S x) t) (.int i u)) Q E s := by
  have hl := S_length x
  refine item_str (fitsSsize_of (N := 9223372036854775808) (by omega) (by omega) (Int.le_refl _)) (by omega) (by omega) (fun _ => ?_) hs ht
  rw [item_S x i h0 h1]; exact h
theorem str_last {value slice : PySem.Expr} {x : List Nat} {Q : Value → Shared → Prop} (hb : x.length ≤ 1000) (h1 : x ≠ []) (h : Q (.str (S [x.getLastD 0]) s.toks) { s with toks := s.toks + 1 })
    (hs : subscripted slice false (.str (S x) t) (.int (-1) u) = operate [.str (S x) t, .int (-1) u] (getItem (.str (S x) t) (.int (-1) u)) := by with_unfolding_all rfl)
    (ht : ∀ r, letTemporaryGo value (.str (S x) t) r = pure () := by intro _; with_unfolding_all rfl) :
    wpAny (model prog w) A (subscriptTail value slice (.str (S x) t) (.int (-1) u)) Q E s := by
  have hl := S_length x
  have h0 : 0 < x.length := List.length_pos_iff.mpr h1
  refine item_str (by decide) (by omega) (by omega) (fun _ => ?_) hs ht
  rw [item_last x h1]; exact h
end
end Mine
end
section
-- C3
open PySem PySem.W PyProof.Rows PySem.Spec PySem.Calls PyProof.Rows.LCg PyProof.Rows.LCt
set_option maxRecDepth 100000
set_option maxHeartbeats 4000000
namespace Mine


theorem left_S (w : World) (news : List (Addr × Obj)) (l : Addr) (k : Nat) (x : List Nat) (n : Int) (t t2 : Tok) (v : Value) (hx : x.length ≤ 255) (h0 : 0 ≤ n) (h1 : n ≤ 255) : Ctr w 135 6 60 ((l, listOf [Value.str (S x) t, .int n t2].toArray k) :: news) [v, .ref l] (fun K => ∀ tr, K (.str (S (x.take n.toNat)) tr) ((l, listOf [Value.str (S x) t, .int n t2].toArray k) :: news)) := by
  rw [← slice_left x n h0]
  exact text_left_ok w news l k (S x) n t t2 v (by rw [S_length]; exact hx) h0 h1
theorem mid_S (w : World) (news : List (Addr × Obj)) (l : Addr) (k : Nat) (x : List Nat) (n : Int) (t t2 t3 : Tok) (v : Value) (hx : x.length ≤ 255) (h0 : 1 ≤ n) (h1 : n ≤ 255) : Ctr w 142 9 90 ((l, listOf [Value.str (S x) t, .int n t2, .int 1 t3].toArray k) :: news) [v, .ref l] (fun K => ∀ tr, K (.str (S ((x.take n.toNat).drop (n - 1).toNat)) tr) ((l, listOf [Value.str (S x) t, .int n t2, .int 1 t3].toArray k) :: news)) := by
  have e : Txt.slice (S x) (some (n - 1)) (some (n - 1 + 1)) = S ((x.take n.toNat).drop (n - 1).toNat) := by rw [slice_mid x _ _ (by omega) (by omega), show n - 1 + 1 = n by omega]
  rw [← e]
  exact text_mid_ok w news l k (S x) n 1 t t2 t3 v (by rw [S_length]; exact hx) h0 h1 (by omega) (by omega)
theorem mid2_S (w : World) (news : List (Addr × Obj)) (l : Addr) (k : Nat) (x : List Nat) (n : Int) (t t2 : Tok) (v : Value) (hx : x.length ≤ 255) (h0 : 1 ≤ n) (h1 : n ≤ 255) : Ctr w 142 9 90 ((l, listOf [Value.str (S x) t, .int n t2].toArray k) :: news) [v, .ref l] (fun K => ∀ tr, K (.str (S (x.drop (n - 1).toNat)) tr) ((l, listOf [Value.str (S x) t, .int n t2].toArray k) :: news)) := by
  have e : Txt.slice (S x) (some (n - 1)) (some (n - 1 + 255)) = S (x.drop (n - 1).toNat) := by rw [slice_mid x _ _ (by omega) (by omega), List.take_of_length_le (by omega)]
  rw [← e]
  exact text_mid2_ok w news l k (S x) n t t2 v (by rw [S_length]; exact hx) h0 h1
theorem joined_S (w : World) (news : List (Addr × Obj)) (x y : List Nat) (t t2 : Tok) (hx : x.length + y.length ≤ 255) : Ctr w 149 6 60 news [.str (S x) t, .str (S y) t2] (fun K => ∀ tr, K (.str (S (x ++ y)) tr) news) := by
  rw [← S_append]
  exact joined_ok w news (S x) (S y) t t2 (by rw [S_length, S_length]; exact hx)
theorem gtS_S (a b : List Nat) : gtS (S a) (S b) = decide (b < a) := rfl
local macro_rules | `(tactic| walk_at "call ref") => `(tactic| (
  (with_reducible show wpAny _ _ (call (Value.ref 135) _) _ _ _)
  k_dflt (refine' left_S _ _ _ _ _ _ _ _ _ ?h0 ?h1 ?h2 _ _ _ _ _ _ _ _ _ _ _ _ _ _ _ _ _ _ _ _ ?k1 ?k2 ?k3 ?k4 ?k5 ?k6 ?k7 ?k8 ?_; (case k1 => k_asm); (case k2 => k_asm); (case k3 => k_asm); (case k4 => k_asm); (case k5 => k_asm); (case k6 => first | exact rfl | assumption); (case h0 => (first | omega | l_fact | ((simp only [S_length, List.length_append, List.length_take, List.length_drop, List.length_cons, List.length_nil]); omega))); (case h1 => (first | omega | l_fact | ((simp only [S_length, List.length_append, List.length_take, List.length_drop, List.length_cons, List.length_nil]); omega))); (case h2 => (first | omega | l_fact | ((simp only [S_length, List.length_append, List.length_take, List.length_drop, List.length_cons, List.length_nil]); omega))); (case k7 => ktr_room); (case k8 => ktr_units))
  (intro tr9 h9 tk9 F9 N9)
  (try dsimp only)
  (try k_fold)))
local macro_rules | `(tactic| walk_at "call ref") => `(tactic| (
  (with_reducible show wpAny _ _ (call (Value.ref 142) _) _ _ _)
  k_dflt (refine' mid2_S _ _ _ _ _ _ _ _ _ ?h0 ?h1 ?h2 _ _ _ _ _ _ _ _ _ _ _ _ _ _ _ _ _ _ _ _ ?k1 ?k2 ?k3 ?k4 ?k5 ?k6 ?k7 ?k8 ?_; (case k1 => k_asm); (case k2 => k_asm); (case k3 => k_asm); (case k4 => k_asm); (case k5 => k_asm); (case k6 => first | exact rfl | assumption); (case h0 => (first | omega | l_fact | ((simp only [S_length, List.length_append, List.length_take, List.length_drop, List.length_cons, List.length_nil]); omega))); (case h1 => (first | omega | l_fact | ((simp only [S_length, List.length_append, List.length_take, List.length_drop, List.length_cons, List.length_nil]); omega))); (case h2 => (first | omega | l_fact | ((simp only [S_length, List.length_append, List.length_take, List.length_drop, List.length_cons, List.length_nil]); omega))); (case k7 => ktr_room); (case k8 => ktr_units))
  (intro tr9 h9 tk9 F9 N9)
  (try dsimp only)
  (try k_fold)))
local macro_rules | `(tactic| walk_at "call ref") => `(tactic| (
  (with_reducible show wpAny _ _ (call (Value.ref 142) _) _ _ _)
  k_dflt (refine' mid_S _ _ _ _ _ _ _ _ _ _ ?h0 ?h1 ?h2 _ _ _ _ _ _ _ _ _ _ _ _ _ _ _ _ _ _ _ _ ?k1 ?k2 ?k3 ?k4 ?k5 ?k6 ?k7 ?k8 ?_; (case k1 => k_asm); (case k2 => k_asm); (case k3 => k_asm); (case k4 => k_asm); (case k5 => k_asm); (case k6 => first | exact rfl | assumption); (case h0 => (first | omega | l_fact | ((simp only [S_length, List.length_append, List.length_take, List.length_drop, List.length_cons, List.length_nil]); omega))); (case h1 => (first | omega | l_fact | ((simp only [S_length, List.length_append, List.length_take, List.length_drop, List.length_cons, List.length_nil]); omega))); (case h2 => (first | omega | l_fact | ((simp only [S_length, List.length_append, List.length_take, List.length_drop, List.length_cons, List.length_nil]); omega))); (case k7 => ktr_room); (case k8 => ktr_units))
  (intro tr9 h9 tk9 F9 N9)
  (try dsimp only)
  (try k_fold)))
local macro_rules | `(tactic| walk_at "call ref") => `(tactic| (
  (with_reducible show wpAny _ _ (call (Value.ref 149) _) _ _ _)
  k_dflt (refine' joined_S _ _ _ _ _ _ ?h0 _ _ _ _ _ _ _ _ _ _ _ _ _ _ _ _ _ _ _ _ ?k1 ?k2 ?k3 ?k4 ?k5 ?k6 ?k7 ?k8 ?_; (case k1 => k_asm); (case k2 => k_asm); (case k3 => k_asm); (case k4 => k_asm); (case k5 => k_asm); (case k6 => first | exact rfl | assumption); (case h0 => (first | omega | l_fact | ((simp only [S_length, List.length_append, List.length_take, List.length_drop, List.length_cons, List.length_nil]); omega))); (case k7 => ktr_room); (case k8 => ktr_units))
  (intro tr9 h9 tk9 F9 N9)
  (try dsimp only)
  (try k_fold)))
local macro_rules | `(tactic| walk_at "call ref") => `(tactic| (
  (with_reducible show wpAny _ _ (call (Value.ref 325) _) _ _ _)
  k_dflt (refine' worth_ok _ _ _ _ _ _ _ _ _ _ _  _ _ _ _ _ _ _ _ _ _ _ _ _ _ _ _ _ _ _ _ ?k1 ?k2 ?k3 ?k4 ?k5 ?k6 ?k7 ?k8 ?_; (case k1 => k_asm); (case k2 => k_asm); (case k3 => k_asm); (case k4 => k_asm); (case k5 => k_asm); (case k6 => first | exact rfl | assumption);  (case k7 => ktr_room); (case k8 => ktr_units))
  (intro tr9 h9 tk9 F9 N9)
  (try dsimp only)
  (try k_fold)))

def setL (x : List Nat) (n : Nat) (y : List Nat) : List Nat := (x.take n ++ y) ++ x.drop (n + 1)
theorem setL_eq (x y : List Nat) (n : Int) (h : 0 ≤ n) : (x.take n.toNat ++ y) ++ x.drop (n + 2 - 1).toNat = setL x n.toNat y := by
  unfold setL; rw [show (n + 2 - 1).toNat = n.toNat + 1 by omega]
theorem set_ok (w : World) (news : List (Addr × Obj)) (x y : List Nat) (n : Int) (t t2 t3 : Tok) (hx : x.length ≤ 60) (hy : y.length ≤ 60) (h0 : 0 ≤ n) (h1 : n ≤ 60) : Ctr w 346 12 120 news [.str (S x) t, .int n t2, .str (S y) t3] (fun K => ∀ tr, K (.str (S (setL x n.toNat y)) tr) news) := by
  intro mean mg mb dp un gd cn cs a ccd cl outer A₀ base h₀ L m s Q E B F X N T hk hdp hu hret
  rw [← setL_eq x y n h0] at hret
  refine wpAny_call ?_
  k_dflt cell_enter
  k_steps
  all_goals first
    | (refine hret _ _ _ ?_ ?_; (· k_asm); (first | k_asm | (refine cb_drop (by assumption) (fun p hp => ?_); first | exact hp | exact .tail _ hp | exact .tail _ (.tail _ hp) | exact .tail _ (.tail _ (.tail _ hp)) | exact .tail _ (.tail _ (.tail _ (.tail _ hp))))))
    | law_absurd
    | (refine hret _ _ _ ?_ ?_; (· k_asm); (first | k_asm | (refine cb_drop (by assumption) (fun p hp => ?_); first | exact hp | exact .tail _ hp | exact .tail _ (.tail _ hp) | exact .tail _ (.tail _ (.tail _ hp)) | exact .tail _ (.tail _ (.tail _ (.tail _ hp))))))


/-- the sign at place k -/
def atL (x : List Nat) (k : Int) : List Nat := (x.take (k + 1).toNat).drop (k + 1 - 1).toNat
structure IsSpot (x y : List Nat) (k : Int) : Prop where
  lo : 0 ≤ k
  hi : k ≤ x.length
  no : ∀ i, 0 ≤ i → i < k → gtS (S (atL x i)) (S y) = false
  yes : k < x.length → gtS (S (atL x k)) (S y) = true
theorem rangeKs_len (n : Nat) : (rangeKs 0 n).length = n := by unfold rangeKs; simp
theorem spot_nil (x y : List Nat) : ∀ i : Int, 0 ≤ i → i < (([] : List Int).length : Int) → gtS (S (atL x i)) (S y) = false := fun i h0 h1 => by simp at h1; omega
theorem spot_if {b : Bool} : ((if b = true then (-1 : Int) else 0) = 0) ↔ b = false := by cases b <;> simp
theorem spot_step {x y : List Nat} {pre : List Int} {k : Int} (e : k = 0 + ↑pre.length) (h : ∀ i : Int, 0 ≤ i → i < (pre.length : Int) → gtS (S (atL x i)) (S y) = false) (q : (if gtS (S (List.drop (k + 1 - 1).toNat (List.take (k + 1).toNat x))) (S y) = true then (-1 : Int) else 0) = 0) :
    ∀ i : Int, 0 ≤ i → i < ((pre ++ [k]).length : Int) → gtS (S (atL x i)) (S y) = false := fun i h0 h1 => by
  rw [List.length_append] at h1
  by_cases q' : i < (pre.length : Int)
  · exact h i h0 q'
  · have : i = k := by simp at h1; omega
    subst this
    exact spot_if.mp q
theorem spot_here {x y : List Nat} {pre : List Int} {k : Int} {n : Nat} (hn : n = x.length) (e : k = 0 + ↑pre.length) (hl : pre.length < ((n : Int) - 0).toNat) (h : ∀ i : Int, 0 ≤ i → i < (pre.length : Int) → gtS (S (atL x i)) (S y) = false) (q : (if gtS (S (List.drop (k + 1 - 1).toNat (List.take (k + 1).toNat x))) (S y) = true then (-1 : Int) else 0) ≠ 0) : IsSpot x y k :=
  ⟨by omega, by omega, fun i h0 h1 => h i h0 (by omega), fun _ => by
    have : gtS (S (atL x k)) (S y) ≠ false := fun z => q (spot_if.mpr z)
    simpa using this⟩
theorem spot_end {x y : List Nat} {n : Nat} (hn : n = x.length) (h : ∀ i : Int, 0 ≤ i → i < ((rangeKs 0 ((n : Int) - 0).toNat).length : Int) → gtS (S (atL x i)) (S y) = false) : IsSpot x y n :=
  ⟨by omega, by omega, fun i h0 h1 => h i h0 (by rw [rangeKs_len]; omega), fun h => by omega⟩
theorem spot_ok (w : World) (news : List (Addr × Obj)) (x y : List Nat) (t t2 : Tok) (hx : x.length ≤ 60) : Ctr w 339 15 150 news [.str (S x) t, .str (S y) t2] (fun K => ∀ k tr, IsSpot x y k → K (.int k tr) news) := by
  intro mean mg mb dp un gd cn cs a ccd cl outer A₀ base h₀ L m s Q E B F X N T hk hdp hu hret
  have hS9 := S_length x
  have hx9 : (S x).length ≤ 60 := by omega
  (k_with "pyIter ref" => k_search (fun pre => ∀ i : Int, 0 ≤ i → i < (pre.length : Int) → gtS (S (atL x i)) (S y) = false))
  (k_with "state" => first | exact spot_nil _ _ | exact spot_step (by assumption) (by assumption) (by assumption))
  refine wpAny_call ?_
  k_dflt cell_enter
  k_steps
  all_goals first
    | (refine hret _ _ (spot_end hS9 kInv) _ _ ?_ ?_; (· k_asm); (first | k_asm | (refine cb_drop (by assumption) (fun p hp => ?_); first | exact hp | exact .tail _ hp | exact .tail _ (.tail _ hp) | exact List.mem_append_left _ hp | exact .tail _ (List.mem_append_left _ hp) | exact .tail _ (.tail _ (List.mem_append_left _ hp)) | exact .tail _ (.tail _ (.tail _ (List.mem_append_left _ hp))))))
    | (refine hret _ _ (spot_here hS9 kEq kLt kInv (by assumption)) _ _ ?_ ?_; (· k_asm); (first | k_asm | (refine cb_drop (by assumption) (fun p hp => ?_); first | exact hp | exact .tail _ hp | exact .tail _ (.tail _ hp) | exact List.mem_append_left _ hp | exact .tail _ (List.mem_append_left _ hp) | exact .tail _ (.tail _ (List.mem_append_left _ hp)) | exact .tail _ (.tail _ (.tail _ (List.mem_append_left _ hp))))))

end Mine
end
section
-- P4
open PySem PySem.W PyProof.Rows PySem.Spec PySem.Calls PyProof.Rows.LCg PyProof.Rows.LCt
set_option maxRecDepth 100000
set_option maxHeartbeats 4000000
namespace Mine


def spotN : List Nat → List Nat → Nat
  | [], _ => 0
  | c :: r, y => if y < [c] then 0 else spotN r y + 1
def putIn : List (List Nat) → List Nat → List (List Nat) × Nat
  | [], s => ([s], 0)
  | r :: rs, s => if spotN r s = r.length then (setL r (spotN r s) s :: rs, 0) else (setL r (spotN r s) s :: (putIn rs [r.getD (spotN r s) 0]).1, (putIn rs [r.getD (spotN r s) 0]).2 + 1)
theorem atL_eq (x : List Nat) (i : Nat) (h : i < x.length) : atL x i = [x.getD i 0] := by
  unfold atL
  rw [show ((i : Int) + 1).toNat = i + 1 by omega, show ((i : Int) + 1 - 1).toNat = i by omega, List.drop_take]
  rw [show i + 1 - i = 1 by omega, List.take_one, List.head?_drop, List.getElem?_eq_getElem h, List.getD_eq_getElem?_getD, List.getElem?_eq_getElem h]; rfl
theorem spotN_of (y : List Nat) : ∀ (x : List Nat) (k : Nat), k ≤ x.length → (∀ i, i < k → ¬ y < [x.getD i 0]) → (k < x.length → y < [x.getD k 0]) → spotN x y = k
  | [], k, h, _, _ => by simp at h; subst h; rfl
  | c :: r, 0, _, _, h3 => by
    have := h3 (by simp)
    simp only [List.getD_cons_zero] at this
    unfold spotN; rw [if_pos this]
  | c :: r, k + 1, h1, h2, h3 => by
    have := h2 0 (by omega)
    simp only [List.getD_cons_zero] at this
    unfold spotN
    rw [if_neg this, spotN_of y r k (by simpa using h1) (fun i hi => by simpa using h2 (i + 1) (by omega)) (fun h => by simpa using h3 (by simpa using h))]
theorem IsSpot.is {x y : List Nat} {k : Int} (h : IsSpot x y k) : k = (spotN x y : Int) := by
  have h0 := h.lo
  have h1 := h.hi
  obtain ⟨j, rfl⟩ : ∃ j : Nat, k = j := ⟨k.toNat, by omega⟩
  have e : spotN x y = j := by
    refine spotN_of y x j (by omega) (fun i hi => ?_) (fun hj => ?_)
    · have q := h.no i (by omega) (by omega)
      rw [atL_eq x i (by omega), gtS_S] at q
      exact of_decide_eq_false q
    · have q := h.yes (by omega)
      rw [atL_eq x j hj, gtS_S] at q
      exact of_decide_eq_true q
  rw [e]
theorem setL_length (x : List Nat) (k : Nat) (y : List Nat) (hk : k ≤ x.length) : (setL x k y).length = k + y.length + (x.length - (k + 1)) := by
  unfold setL; simp [Nat.min_eq_left hk]; omega
/-- between the turns -/
structure PutInv (rt : RT) (sg : List Nat) (i : Nat) (c : RT × List Nat × Tok) : Prop where
  len : c.1.length = rt.length
  ok : ∀ p ∈ c.1, p.1.length ≤ 5
  one : c.2.1.length = 1
  fst : (putIn (rt.map (·.1)) sg).1 = (c.1.take i).map (·.1) ++ (putIn ((c.1.drop i).map (·.1)) c.2.1).1
  snd : (putIn (rt.map (·.1)) sg).2 = i + (putIn ((c.1.drop i).map (·.1)) c.2.1).2
theorem put_start {rt : RT} {sg : List Nat} {t : Tok} (hb : ∀ p ∈ rt, p.1.length ≤ 5) (hs : sg.length = 1) : PutInv rt sg ([] : List Int).length (rt, sg, t) :=
  ⟨rfl, hb, hs, by simp, by simp⟩
theorem drop_get {rt : RT} {i : Nat} {r : List Nat} {t : Tok} (h : rt[i]? = some (r, t)) : rt.drop i = (r, t) :: rt.drop (i + 1) := by
  have hi : i < rt.length := by
    rcases Nat.lt_or_ge i rt.length with q | q
    · exact q
    · rw [List.getElem?_eq_none q] at h; cases h
  rw [List.drop_eq_getElem_cons hi]
  congr 1
  rw [List.getElem?_eq_getElem hi] at h
  exact Option.some.inj h
theorem put_next {rt : RT} {sg : List Nat} {pre : List Int} {c : RT × List Nat × Tok} {r : List Nat} {t t2 t3 : Tok} {k k2 : Int} (e : k = 0 + ↑pre.length) (hi : PutInv rt sg pre.length c) (hr : c.1[k.toNat]? = some (r, t)) (hk : k2 = (spotN r c.2.1 : Int)) (h2 : IsSpot r c.2.1 k2) (hne : ¬ k2 = (r.length : Int)) :
    PutInv rt sg (pre ++ [k]).length (c.1.set k.toNat (setL r k2.toNat c.2.1, t2), [r.getD k2.toNat 0], t3) := by
  have ek : k.toNat = pre.length := by omega
  have e2 : k2.toNat = spotN r c.2.1 := by omega
  have hlt : spotN r c.2.1 < r.length := by have := h2.hi; have := h2.lo; omega
  rw [ek] at hr ⊢
  rw [e2]
  have hd := drop_get hr
  have hp : pre.length < c.1.length := by
    rcases Nat.lt_or_ge pre.length c.1.length with q | q
    · exact q
    · rw [List.getElem?_eq_none q] at hr; cases hr
  have hm : (r, t) ∈ c.1 := List.mem_of_getElem? hr
  have hl := hi.ok _ hm
  have hst : (c.1.set pre.length (setL r (spotN r c.2.1) c.2.1, t2)).take (pre.length + 1) = c.1.take pre.length ++ [(setL r (spotN r c.2.1) c.2.1, t2)] := by
    rw [List.take_add_one, List.take_set_of_le (Nat.le_refl _)]
    simp [hp]
  have hsd : (c.1.set pre.length (setL r (spotN r c.2.1) c.2.1, t2)).drop (pre.length + 1) = c.1.drop (pre.length + 1) := by
    rw [List.drop_set_of_lt (by omega)]
  refine ⟨by rw [List.length_set]; exact hi.len, fun p hp' => ?_, by simp, ?_, ?_⟩
  · rcases List.mem_or_eq_of_mem_set hp' with q | q
    · exact hi.ok p q
    · rw [q]; show (setL r (spotN r c.2.1) c.2.1).length ≤ 5
      rw [setL_length _ _ _ (Nat.le_of_lt hlt), hi.one]
      have : r.length ≤ 5 := hl
      omega
  · rw [hi.fst, hd, List.length_append, List.length_singleton, hst, hsd]
    simp only [List.map_cons, putIn, List.map_append, List.map_nil, List.append_assoc, List.singleton_append]
    rw [if_neg (by omega)]
  · rw [hi.snd, hd, List.length_append, List.length_singleton, hsd]
    simp only [List.map_cons, putIn]
    rw [if_neg (by omega)]
    show _ = pre.length + 1 + _
    omega
theorem put_here {rt : RT} {sg : List Nat} {pre : List Int} {c : RT × List Nat × Tok} {r : List Nat} {t t2 : Tok} {k k2 : Int} (e : k = 0 + ↑pre.length) (hi : PutInv rt sg pre.length c) (hr : c.1[k.toNat]? = some (r, t)) (hk : k2 = (spotN r c.2.1 : Int)) (hne : k2 = (r.length : Int)) :
    (c.1.set k.toNat (setL r k2.toNat c.2.1, t2)).map (·.1) = (putIn (rt.map (·.1)) sg).1 ∧ k = ((putIn (rt.map (·.1)) sg).2 : Int) := by
  have ek : k.toNat = pre.length := by omega
  have e2 : k2.toNat = spotN r c.2.1 := by omega
  rw [ek] at hr ⊢
  rw [e2]
  have hd := drop_get hr
  have hp : pre.length < c.1.length := by
    rcases Nat.lt_or_ge pre.length c.1.length with q | q
    · exact q
    · rw [List.getElem?_eq_none q] at hr; cases hr
  constructor
  · rw [hi.fst, hd]
    simp only [List.map_cons, putIn]
    rw [if_pos (by omega), List.set_eq_take_append_cons_drop, if_pos hp]
    simp
  · rw [hi.snd, hd]
    simp only [List.map_cons, putIn]
    rw [if_pos (by omega)]
    simp; omega
theorem put_end {rt : RT} {sg : List Nat} {n : Nat} {c : RT × List Nat × Tok} (hn : n = rt.length) (hi : PutInv rt sg n c) {t : Tok} :
    (c.1 ++ [(c.2.1, t)]).map (·.1) = (putIn (rt.map (·.1)) sg).1 ∧ (((c.1 ++ [(c.2.1, t)]).length : Int) - 1) = ((putIn (rt.map (·.1)) sg).2 : Int) := by
  have hl := hi.len
  have e : c.1.drop n = [] := List.drop_of_length_le (by omega)
  have e2 : c.1.take n = c.1 := List.take_of_length_le (by omega)
  constructor
  · rw [hi.fst, e, e2]; simp [putIn]
  · rw [hi.snd, e]; simp [putIn]; omega
end Mine
end
section
-- C4
open PySem PySem.W PyProof.Rows PySem.Spec PySem.Calls PyProof.Rows.LCg PyProof.Rows.LCt
set_option maxRecDepth 100000
set_option maxHeartbeats 4000000
namespace Mine

local macro_rules | `(tactic| walk_at "call ref") => `(tactic| (
  (with_reducible show wpAny _ _ (call (Value.ref 346) _) _ _ _)
  k_dflt (refine' set_ok _ _ _ _ _ _ _ _ ?h0 ?h1 ?h2 ?h3 _ _ _ _ _ _ _ _ _ _ _ _ _ _ _ _ _ _ _ _ ?k1 ?k2 ?k3 ?k4 ?k5 ?k6 ?k7 ?k8 ?_; (case k1 => k_asm); (case k2 => k_asm); (case k3 => k_asm); (case k4 => k_asm); (case k5 => k_asm); (case k6 => first | exact rfl | assumption); (case h0 => (first | omega | l_fact | ((simp only [S_length, List.length_append, List.length_take, List.length_drop, List.length_cons, List.length_nil]); omega))); (case h1 => (first | omega | l_fact | ((simp only [S_length, List.length_append, List.length_take, List.length_drop, List.length_cons, List.length_nil]); omega))); (case h2 => (first | omega | l_fact | ((simp only [S_length, List.length_append, List.length_take, List.length_drop, List.length_cons, List.length_nil]); omega))); (case h3 => (first | omega | l_fact | ((simp only [S_length, List.length_append, List.length_take, List.length_drop, List.length_cons, List.length_nil]); omega))); (case k7 => ktr_room); (case k8 => ktr_units))
  (intro tr9 h9 tk9 F9 N9)
  (try dsimp only)
  (try k_fold)))
local macro_rules | `(tactic| walk_at "call ref") => `(tactic| (
  (with_reducible show wpAny _ _ (call (Value.ref 339) _) _ _ _)
  k_dflt (refine' spot_ok _ _ _ _ _ _ ?h0 _ _ _ _ _ _ _ _ _ _ _ _ _ _ _ _ _ _ _ _ ?k1 ?k2 ?k3 ?k4 ?k5 ?k6 ?k7 ?k8 ?_; (case k1 => k_asm); (case k2 => k_asm); (case k3 => k_asm); (case k4 => k_asm); (case k5 => k_asm); (case k6 => first | exact rfl | assumption); (case h0 => (first | omega | l_fact | ((simp only [S_length, List.length_append, List.length_take, List.length_drop, List.length_cons, List.length_nil]); omega))); (case k7 => ktr_room); (case k8 => ktr_units))
  (intro kS9 tr9 hS9 h9 tk9 F9 N9)
  (have q9 := IsSpot.lo hS9); (have q9 := IsSpot.hi hS9); (have q9 := IsSpot.is hS9)
  (try dsimp only)
  (try k_fold)))
theorem rangeKs_len' (n : Nat) : (rangeKs 0 ((n : Int) - 0).toNat).length = n := by rw [rangeKs_len]; omega
theorem off_put {news own : List (Addr × Obj)} {d : Addr} {o : Obj} (hd : ∀ p ∈ news, p.1 ≠ d) (ho : OwnOff own (((d, o) :: news).map (·.1))) : ∀ p ∈ news ++ own, p.1 ≠ d := fun p hp => by
  rcases List.mem_append.mp hp with q | q
  · exact hd p q
  · exact ho p q d (by simp)
theorem put_in_ok (w : World) (news : List (Addr × Obj)) (d : Addr) (n : Nat) (rt : RT) (sg : List Nat) (t : Tok) (hd : ∀ p ∈ news, p.1 ≠ d) (hz : rt.length ≤ 5) (hb : ∀ p ∈ rt, p.1.length ≤ 5) (hs : sg.length = 1) : Ctr w 353 20 250 ((d, rowsO rt n) :: news) [.ref d, .str (S sg) t] (fun K => ∀ rt' n' tr, rt'.map (·.1) = (putIn (rt.map (·.1)) sg).1 → K (.int (putIn (rt.map (·.1)) sg).2 tr) ((d, rowsO rt' n') :: news)) := by
  intro mean mg mb dp un gd cn cs a ccd cl outer A₀ base h₀ L m s Q E B F X N T hk hdp hu hret
  k_with_none
  (k_with "subscriptTail Name Name ref int" => (refine rl_item (by k_asm) (by k_mem) (by omega) (by omega) (by omega) ?_; intro rX tX hX; (have hXo := kInv.ok _ (List.mem_of_getElem? hX)); dsimp only at hXo; (have hSl := S_length rX); (have hSb : (S rX).length ≤ 60 := by omega)))
  (k_with "subscriptTail Name Name str int" => (refine str_item (by omega) (by omega) (by omega) ?_))
  (k_with "setItem ref int" => (refine rl_set (by k_asm) (by k_asm) (.head kOff2) (by omega) (by omega) (by omega) ?_; intro h9' F9' N9'))
  (k_with "call builtin:list.append" => (refine rl_append (by k_asm) (by k_asm) (.head hd) (by omega) ?_; intro h9' F9' N9'))
  (k_with "call builtin:len" => refine rl_len (by k_asm) (by k_mem) (by first | omega | (simp only [List.length_append, List.length_cons, List.length_nil]; omega)) ?_)
  (k_with "pyIter ref" => (
    ((with_reducible show wpAny _ _ (pyIter (Value.ref _)) (fun it s₂ => LoopAtV _ _ _ _ _ _ _ _ _ it s₂) _ _); k_here)
    (rename Fr _ _ _ _ => lF'); (rename News _ _ _ _ => lN'); (rename IsRange _ _ _ _ _ _ _ _ => rgX)
    (with_unfolding_all refine' kst_range (σ := RT × List Nat × Tok) (fun c => (d, rowsO c.1 n) :: news) (fun c => [(Str.ofString "sign", Value.str (S c.2.1) c.2.2)]) (fun _ => True) [Str.ofString "row", Str.ofString "at", Str.ofString "sign"] (fun pre c => PutInv rt sg pre.length c) (rt, sg, t) (by rfl) rgX (by exact small_one (by omega) (by omega) (by omega) (by omega)) (by exact rangeSize_nat _ _) lF' lN' True.intro ?kk (put_start hb hs) ?_ ?_)
    (case kk => exact List.forall_mem_cons.mpr ⟨rfl, List.forall_mem_nil _⟩)
    (all_goals (try clear lF' lN'))
    (all_goals first
      | (intro kC kPre kN kT kU kH kTk kOwn kEq kLt kOff kFacts kInv kFr kNews; (try dsimp only [kstB] at kFr); (try dsimp only at kNews); (have kLen := kInv.len); (have kOne := kInv.one); (have kOff2 := off_put hd kOff))
      | (intro kC kU kH kTk kFacts kInv kFr kNews; (try dsimp only [kstB] at kFr); (try dsimp only at kNews); (have kLen := kInv.len); (have kOne := kInv.one)))
    (all_goals (try k_fold))))
  refine wpAny_call ?_
  k_dflt cell_enter
  k_steps
  · (have e2 := (put_here (t2 := 0) kEq kInv hX (by assumption) (by rw [← hSl]; assumption)).2)
    rw [e2]
    refine' hret _ _ _ (put_here kEq kInv hX (by assumption) (by rw [← hSl]; assumption)).1 _ _ ?f ?n
    (case f => k_asm)
    (case n => (refine' cb_drop (by assumption) (fun p hp => ?_); rcases List.mem_cons.mp hp with rfl | hp; (· exact .head _); exact .tail _ (List.mem_append_left _ hp)))
  · refine' kst_end _ (by assumption) (by assumption) ?hn ?ho (by rfl) True.intro ?hk ?hr (put_next kEq kInv hX (by assumption) (by assumption) (by rw [← hSl]; assumption))
    (case hn => (intro p hp; rcases List.mem_cons.mp hp with rfl | hp; (· exact .head _); exact .tail _ (List.mem_append_left _ hp)))
    (case ho => (intro p hp; exact .tail _ (List.mem_append_right _ hp)))
    (case hk => exact List.forall_mem_cons.mpr ⟨rfl, List.forall_mem_nil _⟩)
    (case hr => kst_same)
  · (have e2 := (put_end (t := 0) (rangeKs_len' _) kInv).2)
    (rw [List.length_append, List.length_singleton] at e2 ⊢)
    rw [e2]
    refine' hret _ _ _ (put_end (rangeKs_len' _) kInv).1 _ _ ?f ?n
    (case f => k_asm)
    (case n => k_asm)

end Mine
end
section
-- P5
open PySem PySem.W PyProof.Rows PySem.Spec PySem.Calls PyProof.Rows.LCg PyProof.Rows.LCt
set_option maxRecDepth 100000
set_option maxHeartbeats 4000000
namespace Mine
/-- the row above loses its sign -/
def stepL (a : Nat) (rs : List (List Nat)) (s : List Nat) : List (List Nat) × List Nat :=
  (rs.set a (setL (rs.getD a []) (spotN (rs.getD a []) s - 1) s), [(rs.getD a []).getD (spotN (rs.getD a []) s - 1) 0])
def takeL : Nat → List (List Nat) → List Nat → List (List Nat) × List Nat
  | 0, rs, s => (rs, s)
  | a + 1, rs, s => takeL a (stepL a rs s).1 (stepL a rs s).2
def takeOk : Nat → List (List Nat) → List Nat → Bool
  | 0, _, _ => true
  | a + 1, rs, s => decide (1 ≤ spotN (rs.getD a []) s) && takeOk a (stepL a rs s).1 (stepL a rs s).2
def cutRow (rs : List (List Nat)) (a : Nat) : List (List Nat) := rs.set a ((rs.getD a []).take ((rs.getD a []).length - 1))
def cutRows (rs : List (List Nat)) (a : Nat) : List (List Nat) := if (rs.getD a []).length ≤ 1 then (cutRow rs a).dropLast else cutRow rs a
def takeOut (rs : List (List Nat)) (a : Nat) : List (List Nat) × List Nat := takeL a (cutRows rs a) [(rs.getD a []).getLastD 0]
def takeOutOk (rs : List (List Nat)) (a : Nat) : Bool := takeOk a (cutRows rs a) [(rs.getD a []).getLastD 0]
structure TakeInv (rs : List (List Nat)) (which m i : Nat) (c : RT × List Nat × Tok) : Prop where
  len : c.1.length = m
  ok : ∀ p ∈ c.1, p.1.length ≤ 5
  one : c.2.1.length = 1
  eq : takeOut rs which = takeL (which - i) (c.1.map (·.1)) c.2.1
  go : takeOk (which - i) (c.1.map (·.1)) c.2.1 = true
theorem map_getD {rt : RT} {k : Nat} {r : List Nat} {t : Tok} (h : rt[k]? = some (r, t)) : (rt.map (·.1)).getD k [] = r := by
  rw [List.getD_eq_getElem?_getD, List.getElem?_map, h]; rfl
theorem get_lt {rt : RT} {k : Nat} {p} (h : rt[k]? = some p) : k < rt.length := by
  rcases Nat.lt_or_ge k rt.length with q | q
  · exact q
  · rw [List.getElem?_eq_none q] at h; cases h
theorem spotN_le (y : List Nat) : ∀ x : List Nat, spotN x y ≤ x.length
  | [] => Nat.le_refl _
  | c :: r => by
    unfold spotN
    split
    · exact Nat.zero_le _
    · have := spotN_le y r; simp; omega
theorem cut_set {rt : RT} {w0 : Int} {r : List Nat} {t : Tok} (h : rt[w0.toNat]? = some (r, t)) (t2 : Tok) (m : Int) (hm : m = (r.length : Int) - 1) :
    (rt.set w0.toNat (r.take m.toNat, t2)).map (·.1) = cutRow (rt.map (·.1)) w0.toNat := by
  unfold cutRow
  rw [map_getD h, List.map_set]
  rw [show m.toNat = r.length - 1 by omega]
theorem set_get {rt : RT} {k : Nat} {p q r : List Nat × Tok} (h0 : rt[k]? = some r) (h : (rt.set k p)[k]? = some q) : q = p := by
  rw [List.getElem?_set_self (get_lt h0)] at h; exact (Option.some.inj h).symm
theorem cut_ok {rt : RT} {w0 : Int} {r : List Nat} {t t2 : Tok} {m : Int} (h : rt[w0.toNat]? = some (r, t)) (hb : ∀ p ∈ rt, p.1.length ≤ 5) : ∀ p ∈ rt.set w0.toNat (r.take m.toNat, t2), p.1.length ≤ 5 := fun p hp => by
  rcases List.mem_or_eq_of_mem_set hp with q | q
  · exact hb p q
  · rw [q]
    have := hb _ (List.mem_of_getElem? h)
    simp only [List.length_take] at *
    omega
/-- the row stays -/
theorem take_start {rt : RT} {w0 : Int} {r : List Nat} {t t2 t3 : Tok} {m : Int} (hm : m = (r.length : Int) - 1) (h : rt[w0.toNat]? = some (r, t)) (hb : ∀ p ∈ rt, p.1.length ≤ 5) (hl : ¬ r.length ≤ 1) (hg : takeOutOk (rt.map (·.1)) w0.toNat = true) :
    TakeInv (rt.map (·.1)) w0.toNat rt.length ([] : List Int).length (rt.set w0.toNat (r.take m.toNat, t2), [r.getLastD 0], t3) := by
  refine ⟨by simp, cut_ok h hb, rfl, ?_, ?_⟩
  · show takeOut _ _ = takeL w0.toNat ((rt.set w0.toNat (r.take m.toNat, t2)).map (·.1)) [r.getLastD 0]
    unfold takeOut cutRows
    rw [cut_set h t2 m hm, map_getD h, if_neg hl]
  · show takeOk w0.toNat ((rt.set w0.toNat (r.take m.toNat, t2)).map (·.1)) [r.getLastD 0] = true
    unfold takeOutOk cutRows at hg
    rw [map_getD h, if_neg hl] at hg
    rw [cut_set h t2 m hm]; exact hg
/-- the row goes -/
theorem take_startP {rt : RT} {w0 : Int} {r : List Nat} {t t2 t3 : Tok} {m : Int} (hm : m = (r.length : Int) - 1) (h : rt[w0.toNat]? = some (r, t)) (hb : ∀ p ∈ rt, p.1.length ≤ 5) (hl : r.length ≤ 1) (hg : takeOutOk (rt.map (·.1)) w0.toNat = true) :
    TakeInv (rt.map (·.1)) w0.toNat (rt.length - 1) ([] : List Int).length ((rt.set w0.toNat (r.take m.toNat, t2)).dropLast, [r.getLastD 0], t3) := by
  refine ⟨by simp, fun p hp => cut_ok h hb p (List.dropLast_subset _ hp), rfl, ?_, ?_⟩
  · show takeOut _ _ = takeL w0.toNat (((rt.set w0.toNat (r.take m.toNat, t2)).dropLast).map (·.1)) [r.getLastD 0]
    unfold takeOut cutRows
    rw [List.map_dropLast, cut_set h t2 m hm, map_getD h, if_pos hl]
  · show takeOk w0.toNat (((rt.set w0.toNat (r.take m.toNat, t2)).dropLast).map (·.1)) [r.getLastD 0] = true
    unfold takeOutOk cutRows at hg
    rw [map_getD h, if_pos hl] at hg
    rw [List.map_dropLast, cut_set h t2 m hm]; exact hg
theorem take_go {rs : List (List Nat)} {w0 : Int} {m : Nat} {pre : List Int} {c : RT × List Nat × Tok} {r : List Nat} {t : Tok} {k : Int} (h0 : 0 ≤ w0) (e : k = w0 - 1 - ↑pre.length) (hk : 0 ≤ k) (hi : TakeInv rs w0.toNat m pre.length c) (hr : c.1[k.toNat]? = some (r, t)) : 1 ≤ spotN r c.2.1 := by
  have ek : w0.toNat - pre.length = k.toNat + 1 := by omega
  have g := hi.go
  rw [ek] at g
  unfold takeOk at g
  rw [map_getD hr] at g
  exact of_decide_eq_true (Bool.and_eq_true_iff.mp g).1
theorem take_next {rs : List (List Nat)} {w0 : Int} {m : Nat} {pre : List Int} {c : RT × List Nat × Tok} {r : List Nat} {t t2 t3 : Tok} {k k2 : Int} (h0 : 0 ≤ w0) (e : k = w0 - 1 - ↑pre.length) (hk : 0 ≤ k) (hi : TakeInv rs w0.toNat m pre.length c) (hr : c.1[k.toNat]? = some (r, t)) (h2 : k2 = (spotN r c.2.1 : Int) - 1) :
    TakeInv rs w0.toNat m (pre ++ [k]).length (c.1.set k.toNat (setL r k2.toNat c.2.1, t2), [r.getD k2.toNat 0], t3) := by
  have ek : w0.toNat - pre.length = k.toNat + 1 := by omega
  have ek2 : w0.toNat - (pre ++ [k]).length = k.toNat := by rw [List.length_append, List.length_singleton]; omega
  have hs := take_go h0 e hk hi hr
  have g := hi.go
  have hq := hi.eq
  have hle := spotN_le c.2.1 r
  have e2 : k2.toNat = spotN r c.2.1 - 1 := by omega
  have hm : r.length ≤ 5 := hi.ok _ (List.mem_of_getElem? hr)
  have hst : ((c.1.set k.toNat (setL r k2.toNat c.2.1, t2)).map (·.1), [r.getD k2.toNat 0]) = stepL k.toNat (c.1.map (·.1)) c.2.1 := by
    unfold stepL
    rw [map_getD hr, List.map_set, e2]
  have h1 := congrArg Prod.fst hst
  have h3 := congrArg Prod.snd hst
  dsimp only at h1 h3
  rw [ek] at g hq
  refine ⟨by rw [List.length_set]; exact hi.len, fun p hp' => ?_, by simp, ?_, ?_⟩
  · rcases List.mem_or_eq_of_mem_set hp' with q | q
    · exact hi.ok p q
    · rw [q]; show (setL r k2.toNat c.2.1).length ≤ 5
      rw [setL_length _ _ _ (by omega), hi.one]
      omega
  · rw [ek2]; dsimp only; rw [h1, h3, hq]; rfl
  · rw [ek2]; dsimp only; rw [h1, h3]
    unfold takeOk at g
    exact (Bool.and_eq_true_iff.mp g).2
theorem take_end {rs : List (List Nat)} {w0 : Int} {m n : Nat} {c : RT × List Nat × Tok} (hn : n = w0.toNat) (hi : TakeInv rs w0.toNat m n c) : c.1.map (·.1) = (takeOut rs w0.toNat).1 ∧ c.2.1 = (takeOut rs w0.toNat).2 := by
  have := hi.eq
  rw [hn, Nat.sub_self] at this
  rw [this]
  exact ⟨rfl, rfl⟩
theorem S_empty {l : List Nat} : (S l == Str.ofString "") = decide (l.length = 0) := by
  cases l with
  | nil => rfl
  | cons a l => rfl
theorem rl_popD {prog : Program} {w : World} {A : Around} {E : Value → Shared → Prop} {s : Shared} {h₀ : Heap} {L d : Addr} {m : Str → Option Value} {led led' : List (Addr × Obj)} {rt : RT} {n : Nat} {Q : Value → Shared → Prop} (F : Fr h₀ L s.heap m) (N : News h₀ L s.heap led) (U : Upd d (rowsO rt n) (rowsO rt.dropLast (n + 1)) led led') (hz : rt.length ≤ 1000) (h0 : 1 ≤ rt.length)
    (h : ∀ v h', Fr h₀ L h' m → News h₀ L h' led' → Q v { s with heap := h' }) : wpAny (model prog w) A (call (.builtin "list.pop") [.ref d]) Q E s := by
  have hne : rt ≠ [] := by intro e; rw [e] at h0; simp at h0
  have hz2 : rt.dropLast.length ≤ 1000 := by rw [List.length_dropLast]; omega
  have e : rt = rt.dropLast ++ [rt.getLast hne] := (List.dropLast_concat_getLast hne).symm
  rw [show rowsO rt n = rowsO (rt.dropLast ++ [rt.getLast hne]) n by rw [← e]] at U
  exact rl_pop F N U hz2 (fun h' F' N' => h _ h' F' N')
end Mine
end
section
-- C5
open PySem PySem.W PyProof.Rows PySem.Spec PySem.Calls PyProof.Rows.LCg PyProof.Rows.LCt
set_option maxRecDepth 100000
set_option maxHeartbeats 4000000
namespace Mine

local macro_rules | `(tactic| walk_at "call ref") => `(tactic| (
  (with_reducible show wpAny _ _ (call (Value.ref 346) _) _ _ _)
  k_dflt (refine' set_ok _ _ _ _ _ _ _ _ ?h0 ?h1 ?h2 ?h3 _ _ _ _ _ _ _ _ _ _ _ _ _ _ _ _ _ _ _ _ ?k1 ?k2 ?k3 ?k4 ?k5 ?k6 ?k7 ?k8 ?_; (case k1 => k_asm); (case k2 => k_asm); (case k3 => k_asm); (case k4 => k_asm); (case k5 => k_asm); (case k6 => first | exact rfl | assumption); (case h0 => (first | omega | l_fact | ((simp only [S_length, List.length_append, List.length_take, List.length_drop, List.length_cons, List.length_nil]); omega))); (case h1 => (first | omega | l_fact | ((simp only [S_length, List.length_append, List.length_take, List.length_drop, List.length_cons, List.length_nil]); omega))); (case h2 => (first | omega | l_fact | ((simp only [S_length, List.length_append, List.length_take, List.length_drop, List.length_cons, List.length_nil]); omega))); (case h3 => (first | omega | l_fact | ((simp only [S_length, List.length_append, List.length_take, List.length_drop, List.length_cons, List.length_nil]); omega))); (case k7 => ktr_room); (case k8 => ktr_units))
  (intro tr9 h9 tk9 F9 N9)
  (try dsimp only)
  (try k_fold)))
local macro_rules | `(tactic| walk_at "call ref") => `(tactic| (
  (with_reducible show wpAny _ _ (call (Value.ref 339) _) _ _ _)
  k_dflt (refine' spot_ok _ _ _ _ _ _ ?h0 _ _ _ _ _ _ _ _ _ _ _ _ _ _ _ _ _ _ _ _ ?k1 ?k2 ?k3 ?k4 ?k5 ?k6 ?k7 ?k8 ?_; (case k1 => k_asm); (case k2 => k_asm); (case k3 => k_asm); (case k4 => k_asm); (case k5 => k_asm); (case k6 => first | exact rfl | assumption); (case h0 => (first | omega | l_fact | ((simp only [S_length, List.length_append, List.length_take, List.length_drop, List.length_cons, List.length_nil]); omega))); (case k7 => ktr_room); (case k8 => ktr_units))
  (intro kS9 tr9 hS9 h9 tk9 F9 N9)
  (have q9 := IsSpot.lo hS9); (have q9 := IsSpot.hi hS9); (have q9 := IsSpot.is hS9)
  (try dsimp only)
  (try k_fold)))
local macro_rules | `(tactic| walk_at "call ref") => `(tactic| (
  (with_reducible show wpAny _ _ (call (Value.ref 135) _) _ _ _)
  k_dflt (refine' left_S _ _ _ _ _ _ _ _ _ ?h0 ?h1 ?h2 _ _ _ _ _ _ _ _ _ _ _ _ _ _ _ _ _ _ _ _ ?k1 ?k2 ?k3 ?k4 ?k5 ?k6 ?k7 ?k8 ?_; (case k1 => k_asm); (case k2 => k_asm); (case k3 => k_asm); (case k4 => k_asm); (case k5 => k_asm); (case k6 => first | exact rfl | assumption); (case h0 => (first | omega | l_fact | ((simp only [S_length, List.length_append, List.length_take, List.length_drop, List.length_cons, List.length_nil]); omega))); (case h1 => (first | omega | l_fact | ((simp only [S_length, List.length_append, List.length_take, List.length_drop, List.length_cons, List.length_nil]); omega))); (case h2 => (first | omega | l_fact | ((simp only [S_length, List.length_append, List.length_take, List.length_drop, List.length_cons, List.length_nil]); omega))); (case k7 => ktr_room); (case k8 => ktr_units))
  (intro tr9 h9 tk9 F9 N9)
  (try dsimp only)
  (try k_fold)))
theorem downKs_len' (w0 : Int) (h : 0 ≤ w0) : (downKs (w0 - 1) ((w0 - 1) - (-1)).toNat).length = w0.toNat := by rw [downKs_length]; omega
theorem cut_le {r : List Nat} {m : Int} (hm : m = (r.length : Int) - 1) (h : (S (r.take m.toNat) == Str.ofString "") = true) : r.length ≤ 1 := by
  rw [S_empty] at h
  have h2 := of_decide_eq_true h
  rw [List.length_take] at h2; omega
theorem cut_gt {r : List Nat} {m : Int} (hm : m = (r.length : Int) - 1) (h : (S (r.take m.toNat) == Str.ofString "") = false) : ¬ r.length ≤ 1 := by
  rw [S_empty] at h
  have h2 := of_decide_eq_false h
  rw [List.length_take] at h2; omega
def Stop (p : Prop) : Prop := p
theorem Stop.go {p : Prop} (h : Stop p) : p := h
theorem minus_one {a b : Int} (h : a = b) : a - 1 = b - 1 := by rw [h]
theorem sign_tok {h₀ h : Heap} {L : Addr} {m : Str → Option Value} (Fu : Fr h₀ L h m) (x : Str) (v : Str) (t : Tok) (e : m x = some (.str v t)) : ∃ t, m x = some (.str v t) := ⟨t, e⟩
theorem taken_out_ok (w : World) (news : List (Addr × Obj)) (d : Addr) (n : Nat) (rt : RT) (w0 : Int) (t : Tok) (hd : ∀ p ∈ news, p.1 ≠ d) (hz : rt.length ≤ 5) (hb : ∀ p ∈ rt, p.1.length ≤ 5) (h0 : 0 ≤ w0) (h1 : w0 < rt.length) (hn : ∀ p ∈ rt, p.1 ≠ []) (hg : takeOutOk (rt.map (·.1)) w0.toNat = true) : Ctr w 360 20 250 ((d, rowsO rt n) :: news) [.ref d, .int w0 t] (fun K => ∀ rt' n' tr, rt'.map (·.1) = (takeOut (rt.map (·.1)) w0.toNat).1 → K (.str (S (takeOut (rt.map (·.1)) w0.toNat).2) tr) ((d, rowsO rt' n') :: news)) := by
  intro mean mg mb dp un gd cn cs a ccd cl outer A₀ base h₀ L m s Q E B F X N T hk hdp hu hret
  k_with_none
  (k_with "subscriptTail Name Name ref int" => first
    | (refine rl_item (by k_asm) (by k_mem) (by omega) (by omega) (by omega) ?_; intro rX tX hX; (have hNe := hn _ (List.mem_of_getElem? hX)); (have hXo := hb _ (List.mem_of_getElem? hX)); (dsimp only at hNe hXo); (have hSl := S_length rX); (have hPos : 0 < rX.length := List.length_pos_iff.mpr hNe); (have hSb : (S rX).length ≤ 60 := by omega))
    | (refine rl_item (by k_asm) (by k_mem) (by simp only [List.length_set]; omega) (by omega) (by simp only [List.length_set]; omega) ?_; intro rY tY hY; (have hYe := set_get (by assumption) hY); (obtain ⟨rfl, rfl⟩ := Prod.mk.inj hYe))
    | (refine rl_item (by k_asm) (by k_mem) (by omega) (by omega) (by omega) ?_; intro rX tX hX; (have hXo := kInv.ok _ (List.mem_of_getElem? hX)); (have hGo := take_go h0 kEq (by omega) kInv hX); dsimp only at hXo; (have hSl := S_length rX); (have hSb : (S rX).length ≤ 60 := by omega)))
  (k_with "subscriptTail Name Name str int" => (refine str_item (by omega) (by omega) (by omega) ?_))
  (k_with "setItem ref int" => first
    | (refine' rl_set (led := (d, rowsO kC.1 nn) :: (news ++ kOwn)) (led' := (d, rowsO (kC.1.set kN.toNat (setL rX _ _, _)) nn) :: (news ++ kOwn)) ?F (cb_drop (by assumption) (fun p hp => .tail _ hp)) ?U ?a ?b ?c ?_; (case U => exact .head kOff2); (case F => k_asm); (case a => omega); (case b => omega); (case c => omega); intro h9' F9' N9')
    | (refine' rl_set (led := (d, rowsO rt n) :: news) (led' := (d, rowsO (rt.set w0.toNat (_, _)) n) :: news) ?F (cb_drop (by assumption) (fun p hp => .tail _ (.tail _ hp))) ?U ?a ?b ?c ?_; (case U => exact .head hd); (case F => k_asm); (case a => omega); (case b => omega); (case c => omega); intro h9' F9' N9'))
  (k_with "subscriptTail Name UnaryOp str int" => (refine str_last (by omega) (by assumption) ?_))
  (k_with "call builtin:list.pop" => (refine rl_popD (by k_asm) (by k_asm) (.head hd) (by simp only [List.length_set]; omega) (by simp only [List.length_set]; omega) ?_; intro vP h9' F9' N9'))
  (k_with "call builtin:len" => refine rl_len (by k_asm) (by k_mem) (by first | omega | (simp only [List.length_append, List.length_cons, List.length_nil]; omega)) ?_)
  (k_with "pyIter ref" => first
   | (
    ((with_reducible show wpAny _ _ (pyIter (Value.ref _)) (fun it s₂ => LoopAtV _ _ _ _ _ _ _ _ _ it s₂) _ _); k_here)
    (rename Fr _ _ _ _ => lF'); (rename News _ _ _ _ => lN'); (rename IsRange _ _ _ _ _ _ _ _ => rgX); (obtain ⟨tS, hTS⟩ := sign_tok lF' (Str.ofString "sign") (S [rX.getLastD 0]) _ (by with_unfolding_all rfl))
    (obtain ⟨nn, hnn⟩ : ∃ nn : Nat, nn = n := ⟨_, rfl⟩); (rw [← hnn] at lN')
    (with_unfolding_all refine' kst_rangeD (σ := RT × List Nat × Tok) (fun c => (d, rowsO c.1 nn) :: news) (fun c => [(Str.ofString "sign", Value.str (S c.2.1) c.2.2)]) (fun _ => True) [Str.ofString "row", Str.ofString "at", Str.ofString "sign"] (fun pre c => TakeInv (rt.map (·.1)) w0.toNat rt.length pre.length c) (rt.set w0.toNat (rX.take ((S rX).length - 1 : Int).toNat, _), [rX.getLastD 0], tS) (by rfl) rgX (by exact small_down (by omega) (by omega) (by omega) (by omega)) (by exact rangeSize_downNat _ _) lF' lN' True.intro ?kk (take_start (by omega) hX hb (cut_gt (m := ((S rX).length - 1 : Int)) (by omega) (by assumption)) hg) ?_ ?_)
    (case kk => exact List.forall_mem_cons.mpr ⟨hTS, List.forall_mem_nil _⟩)
    (all_goals (try clear lF' lN'))
    (all_goals first
      | (intro kC kPre kN kT kU kH kTk kOwn kEq kLt kOff kFacts kInv kFr kNews; (try dsimp only [kstB] at kFr); (try dsimp only at kNews); (have kLen := kInv.len); (have kOne := kInv.one); (have kOff2 := off_put hd kOff))
      | (intro kC kU kH kTk kFacts kInv kFr kNews; (try dsimp only [kstB] at kFr); (try dsimp only at kNews); (have kLen := kInv.len); (have kOne := kInv.one)))
    (all_goals (try k_fold))
)
   | (
    ((with_reducible show wpAny _ _ (pyIter (Value.ref _)) (fun it s₂ => LoopAtV _ _ _ _ _ _ _ _ _ it s₂) _ _); k_here)
    (rename Fr _ _ _ _ => lF'); (rename News _ _ _ _ => lN'); (rename IsRange _ _ _ _ _ _ _ _ => rgX); (obtain ⟨tS, hTS⟩ := sign_tok lF' (Str.ofString "sign") (S [rX.getLastD 0]) _ (by with_unfolding_all rfl))
    (obtain ⟨nn, hnn⟩ : ∃ nn : Nat, nn = (n + 1) := ⟨_, rfl⟩); (rw [← hnn] at lN')
    (with_unfolding_all refine' kst_rangeD (σ := RT × List Nat × Tok) (fun c => (d, rowsO c.1 nn) :: news) (fun c => [(Str.ofString "sign", Value.str (S c.2.1) c.2.2)]) (fun _ => True) [Str.ofString "row", Str.ofString "at", Str.ofString "sign"] (fun pre c => TakeInv (rt.map (·.1)) w0.toNat (rt.length - 1) pre.length c) ((rt.set w0.toNat (rX.take ((S rX).length - 1 : Int).toNat, _)).dropLast, [rX.getLastD 0], tS) (by rfl) rgX (by exact small_down (by omega) (by omega) (by omega) (by omega)) (by exact rangeSize_downNat _ _) lF' lN' True.intro ?kk (take_startP (by omega) hX hb (cut_le (m := ((S rX).length - 1 : Int)) (by omega) (by assumption)) hg) ?_ ?_)
    (case kk => exact List.forall_mem_cons.mpr ⟨hTS, List.forall_mem_nil _⟩)
    (all_goals (try clear lF' lN'))
    (all_goals first
      | (intro kC kPre kN kT kU kH kTk kOwn kEq kLt kOff kFacts kInv kFr kNews; (try dsimp only [kstB] at kFr); (try dsimp only at kNews); (have kLen := kInv.len); (have kOne := kInv.one); (have kOff2 := off_put hd kOff))
      | (intro kC kU kH kTk kFacts kInv kFr kNews; (try dsimp only [kstB] at kFr); (try dsimp only at kNews); (have kLen := kInv.len); (have kOne := kInv.one)))
    (all_goals (try k_fold))
))
  (k_with "InvEndN" => refine Stop.go ?_)
  refine wpAny_call ?_
  k_dflt cell_enter
  k_steps
  · unfold Stop
    (refine' kst_end _ (by assumption) (by assumption) ?hn ?ho ?ha True.intro ?hk ?hr (take_next h0 kEq (by omega) kInv hX (minus_one (by assumption))))
    (case hn => (intro p hp; rcases List.mem_cons.mp hp with rfl | hp; (· exact .head _); exact .tail _ (List.mem_append_left _ hp)))
    (case ho => (intro p hp; exact .tail _ (List.mem_append_right _ hp)))
    (case ha => simp only [List.map_cons])
    (case hk => exact List.forall_mem_cons.mpr ⟨rfl, List.forall_mem_nil _⟩)
    (case hr => kst_same)
  · (have hE := take_end (by rw [downKs_length]; omega) kInv)
    rw [hE.2]
    refine' hret _ _ _ hE.1 _ _ ?zf ?zn
    (case zf => k_asm)
    (case zn => k_asm)
  · unfold Stop
    (refine' kst_end _ (by assumption) (by assumption) ?hn ?ho ?ha True.intro ?hk ?hr (take_next h0 kEq (by omega) kInv hX (minus_one (by assumption))))
    (case hn => (intro p hp; rcases List.mem_cons.mp hp with rfl | hp; (· exact .head _); exact .tail _ (List.mem_append_left _ hp)))
    (case ho => (intro p hp; exact .tail _ (List.mem_append_right _ hp)))
    (case ha => simp only [List.map_cons])
    (case hk => exact List.forall_mem_cons.mpr ⟨rfl, List.forall_mem_nil _⟩)
    (case hr => kst_same)
  · (have hE := take_end (by rw [downKs_length]; omega) kInv)
    rw [hE.2]
    refine' hret _ _ _ hE.1 _ _ ?zf ?zn
    (case zf => k_asm)
    (case zn => k_asm)

end Mine
end
section
-- Dl
open PySem PySem.W PyProof.Rows PySem.Spec PySem.Calls
set_option maxRecDepth 100000
set_option maxHeartbeats 4000000
namespace Mine
section
variable {prog : Program} {w : World} {A : Around} {E : Value → Shared → Prop} {s : Shared} {env : Env} {h₀ : Heap} {target : PySem.Expr} {body : List Stmt} {Q : Flow → Shared → Prop}
/-- what holds when the body of a turn is done; the draws may have gone on -/
def StepD (Q : Flow → Shared → Prop) (fp : List Addr) (h : Heap) (J : Shared → Prop) (f : Flow) (s₃ : Shared) : Prop :=
  match f with
  | .ret v => Q (.ret v) s₃
  | .brk => Q .next s₃
  | _ => J s₃ ∧ ∀ b ∈ fp, ∀ o, h.get? b = some o → s₃.heap.get? b = some o
theorem loop_D {R : Result → Shared → Prop} {I : Addr} {fp wr : List Addr} {n : Nat} {P Md : Nat → Value → Heap → Prop} {St : Nat → Heap → Prop} (W : KTurns prog w A target I fp wr n P Md St)
    (J : Nat → Shared → Prop) (hst : St 0 s.heap) (h0 : J 0 s)
    (step : ∀ i s₁ v h tk, i < n → J i s₁ → (∀ b o, b ∉ wr → s₁.heap.get? b = some o → h.get? b = some o) → P i v h → St (i + 1) h →
      wpAny (model prog w) A (assign target env v) (fun _ s₂ => wpAny (model prog w) A (execs body env) (StepD (fun f s' => R (.ok f) s') fp h (J (i + 1)))
        (notedBy (model prog w) A env fun e s' => R (.error e) s') s₂) (notedBy (model prog w) A env fun e s' => R (.error e) s') { s₁ with heap := h, toks := tk })
    (done : ∀ s₁ h tk, J n s₁ → (∀ b o, b ∉ wr → s₁.heap.get? b = some o → h.get? b = some o) → R (.ok .next) { s₁ with heap := h, toks := tk }) :
    codeAny (model prog w) A (.forLoop target (.ref I) body [] env) R s := by
  refine codeAny_forLoop_any (fun k s' => ∃ i, J i s' ∧ St i s'.heap ∧ i ≤ n ∧ k = n + 1 - i) ?_ (n + 1) ⟨0, h0, hst, Nat.zero_le _, rfl⟩
  rintro k s' ⟨i, hJ, hst', hi, rfl⟩
  by_cases hlt : i < n
  · refine W.item i _ _ _ hlt hst' fun v h₁ tk₁ hMd hk₁ => ?_
    refine W.go i v _ _ _ hMd fun h₂ hP hst₂ hk₂ => ?_
    refine wpAny_mono (step i s' v h₂ tk₁ hlt hJ (fun b o hb x => hk₂ b o hb (hk₁ b o hb x)) hP hst₂) (fun _ s₂ q => wpAny_mono q (fun f s₃ h₃ => ?_) fun _ _ e => e) fun _ _ e => e
    cases f with
    | ret v => exact h₃
    | brk => exact h₃
    | cont => exact ⟨n + 1 - (i + 1), by omega, i + 1, h₃.1, W.frame _ _ _ hst₂ h₃.2, hlt, rfl⟩
    | next => exact ⟨n + 1 - (i + 1), by omega, i + 1, h₃.1, W.frame _ _ _ hst₂ h₃.2, hlt, rfl⟩
  · have hin : i = n := by omega
    subst hin
    exact W.done _ _ _ hst' fun h₁ tk₁ hk₁ => wpAny_execs_nil (done s' h₁ tk₁ hJ hk₁)
def TurnsD (prog : Program) (w : World) (A : Around) (env : Env) (target : PySem.Expr) (body : List Stmt) (Q : Flow → Shared → Prop) (E : Value → Shared → Prop) (it : Value) (s₂ : Shared) : Prop :=
  ∃ (I : Addr) (fp wr : List Addr) (n : Nat) (P Md : Nat → Value → Heap → Prop) (St : Nat → Heap → Prop) (J : Nat → Shared → Prop),
    it = .ref I ∧ KTurns prog w A target I fp wr n P Md St ∧ St 0 s₂.heap ∧ J 0 s₂ ∧
    (∀ i s₁ v h tk, i < n → J i s₁ → (∀ b o, b ∉ wr → s₁.heap.get? b = some o → h.get? b = some o) → P i v h → St (i + 1) h →
      wpAny (model prog w) A (assign target env v) (fun _ s₂ => wpAny (model prog w) A (execs body env) (StepD Q fp h (J (i + 1))) E s₂) E { s₁ with heap := h, toks := tk }) ∧
    ∀ s₁ h tk, J n s₁ → (∀ b o, b ∉ wr → s₁.heap.get? b = some o → h.get? b = some o) → Q .next { s₁ with heap := h, toks := tk }
theorem For_D {iter : PySem.Expr} {pos : Pos} {m : Str → Option Value} (Fu : Fr h₀ env.locals s.heap m)
    (h : wpAny (model prog w) A (eval iter env) (fun xv s₁ => wpAny (model prog w) A (pyIter xv) (fun it s₂ => TurnsD prog w A env target body Q E it s₂) E s₁) E s)
    (hs : ∀ x, foldedSetIterable iter env x = pure x := by intro _; rfl)
    (hE : PassesOwn (model prog w) A env E := by passes_own) :
    wpAny (model prog w) A (exec (.For target iter body [] pos) env) Q E s := by
  refine wpAny_For (wpAny_mono h (fun xv s₁ h₁ => wpAny_mono h₁ (fun it s₂ h₂ => ?_) fun _ _ e => e) fun _ _ e => e) hs
  obtain ⟨I, fp, wr, n, P, Md, St, J, rfl, W, hst, h0, step, hQ⟩ := h₂
  exact loop_D (R := fun r s' => match r with | .ok f => Q f s' | .error e => cameBackBy (model prog w) A env E e s') W J hst h0
    (fun i s₁ v h tk a b c d e => wpAny_passesOwn hE (wpAny_mono (step i s₁ v h tk a b c d e) (fun _ _ x => wpAny_passesOwn hE x) fun _ _ x => x)) hQ
def EndD (h₀ : Heap) (L : Addr) (s₁ : Shared) (its keep : List (Addr × Obj)) (Inv : (Str → Option Value) → List (Addr × Obj) → Prop) (s₂ : Shared) : Prop :=
  ∃ h' tk dr m' news', s₂ = { s₁ with heap := h', toks := tk, drawn := dr } ∧ Fr h₀ L h' m' ∧ News h₀ L h' (its ++ news') ∧ (∀ p ∈ news', ∀ q ∈ its, p.1 ≠ q.1) ∧ (∀ p ∈ keep, p ∈ news') ∧ Inv m' news'
def PostD (h₀ : Heap) (L : Addr) (s₁ : Shared) (its keep : List (Addr × Obj)) (Inv : (Str → Option Value) → List (Addr × Obj) → Prop) (Q : Flow → Shared → Prop) (f : Flow) (s₂ : Shared) : Prop :=
  match f with
  | .ret v => Q (.ret v) s₂
  | .brk => Q .next s₂
  | _ => EndD h₀ L s₁ its keep Inv s₂
theorem core_D {I : Addr} {fp wr : List Addr} {n : Nat} {P Md : Nat → Value → Heap → Prop} {St : Nat → Heap → Prop} {ws : List (Addr × String)} {keep : List (Addr × Obj)} {m₀ : Str → Option Value} {news : List (Addr × Obj)} {hp : Heap} {tk0 : Nat} (PI : Nat → Value → Heap → Prop)
    (W : KTurns prog w A target I fp wr n P Md St) (hP : ∀ i v h, i < n → P i v h → PI i v h)
    (hobj : ∀ i h, St i h → ∃ its, Objs ws its ∧ ∀ p ∈ its, h.get? p.1 = some p.2)
    (hws : ∀ b ∈ ws.map (·.1), b ∈ fp ∧ h₀.get? b = none) (hwr : ∀ b ∈ wr, b ∈ ws.map (·.1))
    (hfp : ∀ b ∈ fp, b ∈ ws.map (·.1) ∨ ∃ o, (b, o) ∈ keep) (hL : env.locals ∉ fp) (hnw : ∀ p ∈ news, p.1 ∉ ws.map (·.1)) (hst : St 0 hp)
    (F : Fr h₀ env.locals hp m₀) (N : News h₀ env.locals hp news) (hk : ∀ p ∈ keep, p ∈ news)
    (Inv : Nat → (Str → Option Value) → List (Addr × Obj) → Prop) (h0 : Inv 0 m₀ news)
    (turn : ∀ i v h tk dr m₁ news₁, i < n → PI i v h → Inv i m₁ news₁ → (∀ p ∈ keep, p ∈ news₁) → Fr h₀ env.locals h m₁ → AllObj ws (fun its => News h₀ env.locals h (its ++ news₁) → (∀ p ∈ news₁, ∀ q ∈ its, p.1 ≠ q.1) →
      wpAny (model prog w) A (assign target env v) (fun _ s₂ => wpAny (model prog w) A (execs body env) (PostD h₀ env.locals { s with heap := h, toks := tk, drawn := dr } its keep (Inv (i + 1)) Q) E s₂) E { s with heap := h, toks := tk, drawn := dr }))
    (done : ∀ m₁ news₁ h tk dr, Inv n m₁ news₁ → Fr h₀ env.locals h m₁ → News h₀ env.locals h news₁ → Q .next { s with heap := h, toks := tk, drawn := dr }) :
    TurnsD prog w A env target body Q E (.ref I) { s with heap := hp, toks := tk0 } := by
  have hLw : env.locals ∉ wr := fun h => hL (W.sub _ h)
  have old : ∀ b o, h₀.get? b = some o → b ∉ wr := fun b o e hb => by rw [(hws b (hwr b hb)).2] at e; cases e
  have nxt : ∀ (h h₁ : Heap) m₁ news₁, (∀ p ∈ news₁, p.1 ∉ ws.map (·.1)) → Fr h₀ env.locals h m₁ → News h₀ env.locals h news₁ → (∀ b o, b ∉ wr → h.get? b = some o → h₁.get? b = some o) → Fr h₀ env.locals h₁ m₁ ∧ News h₀ env.locals h₁ news₁ := fun h h₁ m₁ news₁ hn F' N' hk₁ =>
    ⟨⟨F'.ns.at' fun o e => hk₁ _ o hLw e, fun b o e => hk₁ b o (old b o e) (F'.keep b o e), F'.above⟩, fun p hp => ⟨hk₁ _ _ (fun h => hn p hp (hwr _ h)) (N' p hp).1, (N' p hp).2⟩⟩
  refine ⟨I, fp, wr, n, P, Md, St, fun i s₁ => ∃ h tk dr m₁ news₁, s₁ = { s with heap := h, toks := tk, drawn := dr } ∧ Fr h₀ env.locals h m₁ ∧ News h₀ env.locals h news₁ ∧ (∀ p ∈ news₁, p.1 ∉ ws.map (·.1)) ∧ (∀ p ∈ keep, p ∈ news₁) ∧ Inv i m₁ news₁, rfl, W, hst,
    ⟨hp, tk0, s.drawn, m₀, news, rfl, F, N, hnw, hk, h0⟩, ?_, ?_⟩
  · rintro i s₁ v h₁ tk₁ hin ⟨h, tk, dr, m₁, news₁, rfl, F', N', hnw', hk', hI⟩ hkeep hPi hst₁
    obtain ⟨F₁, N₁⟩ := nxt h h₁ m₁ news₁ hnw' F' N' hkeep
    obtain ⟨its, hits, hval⟩ := hobj (i + 1) h₁ hst₁
    have hmap := hits.map
    have hat : ∀ p ∈ its, p.1 ∈ ws.map (·.1) := fun p hp => by rw [← hmap]; exact List.mem_map.mpr ⟨p, hp, rfl⟩
    have N₂ : News h₀ env.locals h₁ (its ++ news₁) := fun p hp => by
      rcases List.mem_append.mp hp with hp | hp
      · exact ⟨hval p hp, fun e => hL (e ▸ (hws _ (hat p hp)).1), (hws _ (hat p hp)).2⟩
      · exact N₁ p hp
    have hap : ∀ p ∈ news₁, ∀ q ∈ its, p.1 ≠ q.1 := fun p hp q hq e => hnw' p hp (e ▸ hat q hq)
    refine wpAny_mono ((turn i v h₁ tk₁ dr m₁ news₁ hin (hP i v h₁ hin hPi) hI hk' F₁).at hits N₂ hap) (fun _ s₂ q => wpAny_mono q (fun f s₃ p => ?_) fun _ _ e => e) fun _ _ e => e
    have fin : EndD h₀ env.locals { s with heap := h₁, toks := tk₁, drawn := dr } its keep (Inv (i + 1)) s₃ → (∃ h tk dr m₁ news₁, s₃ = { s with heap := h, toks := tk, drawn := dr } ∧ Fr h₀ env.locals h m₁ ∧ News h₀ env.locals h news₁ ∧ (∀ p ∈ news₁, p.1 ∉ ws.map (·.1)) ∧ (∀ p ∈ keep, p ∈ news₁) ∧ Inv (i + 1) m₁ news₁) ∧ ∀ b ∈ fp, ∀ o, h₁.get? b = some o → s₃.heap.get? b = some o := by
      rintro ⟨h', tk', dr', m', news', rfl, F3, N3, ha3, hk3, hI3⟩
      refine ⟨⟨h', tk', dr', m', news', rfl, F3, fun p hp => N3 p (List.mem_append_right _ hp), fun p hp hq => ?_, hk3, hI3⟩, fun b hb o e => ?_⟩
      · rw [← hmap] at hq
        obtain ⟨q, hq1, hq2⟩ := List.mem_map.mp hq
        exact ha3 p hp q hq1 hq2.symm
      · rcases hfp b hb with h3 | ⟨o', h3⟩
        · rw [← hmap] at h3
          obtain ⟨q, hq1, hq2⟩ := List.mem_map.mp h3
          have e1 := hval q hq1
          rw [hq2, e] at e1
          have e2 := (N3 q (List.mem_append_left _ hq1)).1
          rw [hq2] at e2
          rw [Option.some.inj e1]; exact e2
        · have e1 := (N₁ _ (hk' _ h3)).1
          rw [e] at e1
          have e2 := (N3 _ (List.mem_append_right _ (hk3 _ h3))).1
          rw [Option.some.inj e1]; exact e2
    cases f with
    | ret v => exact p
    | brk => exact p
    | next => exact fin p
    | cont => exact fin p
  · rintro s₁ h₁ tk₁ ⟨h, tk, dr, m₁, news₁, rfl, F', N', hnw', hk', hI⟩ hkeep
    obtain ⟨F₁, N₁⟩ := nxt h h₁ m₁ news₁ hnw' F' N' hkeep
    exact done m₁ news₁ h₁ tk₁ dr hI F₁ N₁
theorem size_none {h : Heap} {L b : Addr} {m : Str → Option Value} (F : Fr h₀ L h m) (hb : h.objs.size ≤ b) : h₀.get? b = none := ktu_new F hb
theorem news_lt {h : Heap} {L : Addr} {news : List (Addr × Obj)} (N : News h₀ L h news) {p : Addr × Obj} (hp : p ∈ news) : p.1 < h.objs.size := Heap.lt_size (N p hp).1
/-- the loop over a text -/
theorem iter_strD {x : Str} {t : Tok} {nm : Str} {ps : Pos} {m₀ : Str → Option Value} {news : List (Addr × Obj)} (hh : A.handled = none) (F : Fr h₀ env.locals s.heap m₀) (N : News h₀ env.locals s.heap news)
    (Inv : Nat → (Str → Option Value) → List (Addr × Obj) → Prop) (h0 : Inv 0 m₀ news)
    (turn : ∀ I c i h tk u dr m₁ news₁, i < x.cps.size → x.cps[i]? = some c → Inv i m₁ news₁ → Fr h₀ env.locals h m₁ → AllObj [(I, strIterType x)] (fun its => News h₀ env.locals h (its ++ news₁) → (∀ p ∈ news₁, ∀ q ∈ its, p.1 ≠ q.1) →
      wpAny (model prog w) A (assign (.Name nm ps) env (.str ⟨#[c]⟩ u)) (fun _ s₂ => wpAny (model prog w) A (execs body env) (PostD h₀ env.locals { s with heap := h, toks := tk, drawn := dr } its [] (Inv (i + 1)) Q) E s₂) E { s with heap := h, toks := tk, drawn := dr }))
    (done : ∀ m₁ news₁ h tk dr, Inv x.cps.size m₁ news₁ → Fr h₀ env.locals h m₁ → News h₀ env.locals h news₁ → Q .next { s with heap := h, toks := tk, drawn := dr }) :
    wpAny (model prog w) A (pyIter (.str x t)) (fun it s₂ => TurnsD prog w A env (.Name nm ps) body Q E it s₂) E s := by
  have key : ∀ (St : Nat → Heap → Prop), Walks prog w A s.heap.objs.size [s.heap.objs.size] [s.heap.objs.size] x.cps.size (SignAt x) St → (∀ i h, St i h → ∃ o, h.get? s.heap.objs.size = some o ∧ o.cls = .type (strIterType x)) →
      (St 0 (s.heap.push { cls := .type (strIterType x), data := .fields #[.str x t, .int 0 0] })) → TurnsD prog w A env (.Name nm ps) body Q E (.ref s.heap.objs.size) { s with heap := s.heap.push { cls := .type (strIterType x), data := .fields #[.str x t, .int 0 0] } } := by
    intro St W hcls hst
    refine core_D (tk0 := s.toks) (ws := [(s.heap.objs.size, strIterType x)]) (keep := []) (fun i v _ => SignAt x i v) (KTurns.ofWalks W fun i v s Q E st q => wpAny_pure q) (fun i v h _ p => p) (fun i h st => ?_) (fun b hb => ?_) (fun b hb => by simpa using hb) (fun b hb => .inl (by simpa using hb)) ?_ (fun p hp hI => ?_) hst (F.push _) (fun p hp => ⟨Heap.get?_push_of_some _ (N p hp).1, (N p hp).2⟩) (fun p hp => by cases hp) Inv h0 ?_ done
    · obtain ⟨o, ho, hc⟩ := hcls i h st
      exact ⟨[(s.heap.objs.size, o)], ⟨⟨rfl, hc⟩, trivial⟩, fun p hp => by rw [List.mem_singleton.mp hp]; exact ho⟩
    · have hb' : b = s.heap.objs.size := by simpa using hb
      rw [hb']; exact ⟨List.mem_cons_self .., next_is_new F⟩
    · intro hI
      exact absurd F.ns.lt ((List.mem_singleton.mp hI) ▸ Nat.lt_irrefl _)
    · have e : p.1 = s.heap.objs.size := by simpa using hI
      exact absurd (news_lt N hp) (e ▸ Nat.lt_irrefl _)
    · rintro i v h tk dr m₁ news₁ hi ⟨c, u, hc, rfl⟩ hI _ F₁
      exact turn _ c i h tk u dr m₁ news₁ hi hc hI F₁
  refine wpAny_pyIter_strU ?_
  cases ha : x.cps.all (· < 128)
  · have e : strIterType x = "str_iterator" := by simp [strIterType, ha]
    refine key _ (Walks.strWide hh _ x t) (fun i h st => ?_) ?_
    · obtain ⟨o, ho, hc, _⟩ := st
      exact ⟨o, ho, by rw [e]; exact hc⟩
    · exact ⟨_, Heap.get?_push_size _ rfl, by rw [e], rfl⟩
  · have e : strIterType x = "str_ascii_iterator" := by simp [strIterType, ha]
    refine key _ (Walks.strAscii hh _ x t) (fun i h st => ?_) ?_
    · obtain ⟨o, ho, hc, _⟩ := st
      exact ⟨o, ho, by rw [e]; exact hc⟩
    · exact ⟨_, Heap.get?_push_size _ rfl, by rw [e], rfl⟩
end
end Mine
end
section
-- Dm
open PySem PySem.W PyProof.Rows PySem.Spec PySem.Calls
set_option maxRecDepth 100000
set_option maxHeartbeats 4000000
namespace Mine
section
variable {prog : Program} {w : World} {A : Around} {E : Value → Shared → Prop} {s : Shared} {env : Env} {h₀ : Heap} {body : List Stmt} {Q : Flow → Shared → Prop}
theorem enumL_D {elts : List PySem.Expr} {k : Nat} {pos : Pos} {l : Addr} {vs : List Value} {n : Nat} {m₀ : Str → Option Value} {news : List (Addr × Obj)}
    (hh : A.handled = none) (F : Fr h₀ env.locals s.heap m₀) (N : News h₀ env.locals s.heap news) (hm : (l, listOf vs.toArray n) ∈ news)
    (Inv : Nat → (Str → Option Value) → List (Addr × Obj) → Prop) (h0 : Inv 0 m₀ news)
    (turn : ∀ e it i x T t h tk dr m₁ news₁, i < vs.length → vs[i]? = some x → IsTup h T #[.int (i : Int) t, x] → Inv i m₁ news₁ → (l, listOf vs.toArray n) ∈ news₁ → Fr h₀ env.locals h m₁ →
      AllObj [(e, "enumerate"), (it, "list_iterator")] (fun its => News h₀ env.locals h (its ++ news₁) → (∀ p ∈ news₁, ∀ q ∈ its, p.1 ≠ q.1) →
      wpAny (model prog w) A (assign (.Tuple elts k pos) env (.ref T)) (fun _ s₂ => wpAny (model prog w) A (execs body env) (PostD h₀ env.locals { s with heap := h, toks := tk, drawn := dr } its [(l, listOf vs.toArray n)] (Inv (i + 1)) Q) E s₂) E { s with heap := h, toks := tk, drawn := dr }))
    (done : ∀ m₁ news₁ h tk dr, Inv vs.length m₁ news₁ → Fr h₀ env.locals h m₁ → News h₀ env.locals h news₁ → Q .next { s with heap := h, toks := tk, drawn := dr }) :
    wpAny (model prog w) A (call (.type "enumerate") [.ref l]) (fun xv s₁ => wpAny (model prog w) A (pyIter xv) (fun it s₂ => TurnsD prog w A env (.Tuple elts k pos) body Q E it s₂) E s₁) E s := by
  have hax := N _ hm
  have hl : s.heap.IsList l vs.toArray := ⟨_, hax.1, rfl, n, rfl⟩
  have hlt : l < s.heap.objs.size := Heap.lt_size hax.1
  have hLs : env.locals < s.heap.objs.size := F.ns.lt
  refine call_enumerate_list hl fun h' hE hI hsz hk => ?_
  refine wpAny_pyIter_enum hE ?_
  refine core_D (tk0 := s.toks) (ws := [(s.heap.objs.size + 1, "enumerate"), (s.heap.objs.size, "list_iterator")]) (keep := [(l, listOf vs.toArray n)]) (fun i v h => ∃ T t x, v = .ref T ∧ vs[i]? = some x ∧ IsTup h T #[.int (i : Int) t, x]) (KTurns.ofWalksU (WalksT.enumerate hh (s.heap.objs.size + 1) s.heap.objs.size l (Nat.succ_ne_self _) (ktu_ne 1 hlt) (Nat.ne_of_lt hlt) vs.toArray).toU) ?_ ?_ ?_ ?_ ?_ ?_ ?_ ?_ (F.keeps hk) (N.grown hk) (fun p hp => by rw [List.mem_singleton.mp hp]; exact hm) Inv h0 ?_ ?_
  · rintro i v h _ ⟨T, vals, rfl, ⟨t, x, hx, rfl⟩, hT⟩
    exact ⟨T, t, x, rfl, by simpa using hx, hT⟩
  · rintro i h ⟨⟨old, he⟩, ⟨oi, hoi, hic, _⟩, _⟩
    have he' : ∃ oe : Obj, h.get? (s.heap.objs.size + 1) = some oe ∧ oe.cls = .type "enumerate" := ⟨_, he, rfl⟩
    obtain ⟨oe, h1, h2⟩ := he'
    refine ⟨[(s.heap.objs.size + 1, oe), (s.heap.objs.size, oi)], ⟨⟨rfl, h2⟩, ⟨rfl, hic⟩, trivial⟩, fun p hp => ?_⟩
    rcases List.mem_cons.mp hp with rfl | hp
    · exact h1
    · rw [List.mem_singleton.mp hp]; exact hoi
  · intro b hb
    have hb' : b = s.heap.objs.size + 1 ∨ b = s.heap.objs.size := by simpa using hb
    rcases hb' with rfl | rfl
    · exact ⟨by simp, size_none F (Nat.le_add_right _ _)⟩
    · exact ⟨by simp, size_none F (Nat.le_refl _)⟩
  · intro b hb
    simpa using hb
  · intro b hb
    have hb' : b = s.heap.objs.size + 1 ∨ b = s.heap.objs.size ∨ b = l := by simpa using hb
    rcases hb' with rfl | rfl | rfl
    · exact .inl (by simp)
    · exact .inl (by simp)
    · exact .inr ⟨listOf vs.toArray n, by simp⟩
  · intro hI'
    have hb' : env.locals = s.heap.objs.size + 1 ∨ env.locals = s.heap.objs.size ∨ env.locals = l := by simpa using hI'
    rcases hb' with e | e | e
    · exact ktu_ne 1 hLs e
    · exact Nat.ne_of_lt hLs e
    · exact hax.2.1 e.symm
  · intro p hp hI'
    have hb' : p.1 = s.heap.objs.size + 1 ∨ p.1 = s.heap.objs.size := by simpa using hI'
    have hlp := news_lt N hp
    rcases hb' with e | e
    · exact ktu_ne 1 hlp e
    · exact Nat.ne_of_lt hlp e
  · exact ⟨⟨.none, hE⟩, hI, hl.at fun o e => hk l o e⟩
  · rintro i v h tk dr m₁ news₁ hi ⟨T, t, x, rfl, hx, hT⟩ hI' hk' F₁
    have hi' : i < vs.length := by simpa using hi
    exact turn _ _ i x T t h tk dr m₁ news₁ hi' hx hT hI' (hk' _ (List.mem_singleton.mpr rfl)) F₁
  · intro m₁ news₁ h tk dr hI' F' N'
    exact done m₁ news₁ h tk dr (by simpa using hI') F' N'
theorem enumS_D {elts : List PySem.Expr} {k : Nat} {pos : Pos} {x : Str} {t₀ : Tok} {m₀ : Str → Option Value} {news : List (Addr × Obj)}
    (hh : A.handled = none) (F : Fr h₀ env.locals s.heap m₀) (N : News h₀ env.locals s.heap news)
    (Inv : Nat → (Str → Option Value) → List (Addr × Obj) → Prop) (h0 : Inv 0 m₀ news)
    (turn : ∀ e it i c u T t h tk dr m₁ news₁, i < x.cps.size → x.cps[i]? = some c → IsTup h T #[.int (i : Int) t, .str ⟨#[c]⟩ u] → Inv i m₁ news₁ → Fr h₀ env.locals h m₁ →
      AllObj [(e, "enumerate"), (it, strIterType x)] (fun its => News h₀ env.locals h (its ++ news₁) → (∀ p ∈ news₁, ∀ q ∈ its, p.1 ≠ q.1) →
      wpAny (model prog w) A (assign (.Tuple elts k pos) env (.ref T)) (fun _ s₂ => wpAny (model prog w) A (execs body env) (PostD h₀ env.locals { s with heap := h, toks := tk, drawn := dr } its [] (Inv (i + 1)) Q) E s₂) E { s with heap := h, toks := tk, drawn := dr }))
    (done : ∀ m₁ news₁ h tk dr, Inv x.cps.size m₁ news₁ → Fr h₀ env.locals h m₁ → News h₀ env.locals h news₁ → Q .next { s with heap := h, toks := tk, drawn := dr }) :
    wpAny (model prog w) A (call (.type "enumerate") [.str x t₀]) (fun xv s₁ => wpAny (model prog w) A (pyIter xv) (fun it s₂ => TurnsD prog w A env (.Tuple elts k pos) body Q E it s₂) E s₁) E s := by
  have hLs : env.locals < s.heap.objs.size := F.ns.lt
  refine call_enumerate_str fun h' hE hI hsz hk => ?_
  refine wpAny_pyIter_enum hE ?_
  have key : ∀ (St : Nat → Heap → Prop), Draws prog w A.in1 s.heap.objs.size [s.heap.objs.size] x.cps.size (fun i v => ∃ c u, x.cps[i]? = some c ∧ v = Value.str ⟨#[c]⟩ u) St → (∀ i h, St i h → ∃ o, h.get? s.heap.objs.size = some o ∧ o.cls = .type (strIterType x)) →
      St 0 h' → TurnsD prog w A env (.Tuple elts k pos) body Q E (.ref (s.heap.objs.size + 1)) { s with heap := h' } := by
    intro St D hcls hst
    refine core_D (tk0 := s.toks) (ws := [(s.heap.objs.size + 1, "enumerate"), (s.heap.objs.size, strIterType x)]) (keep := []) (fun i v h => ∃ T t c u, v = .ref T ∧ x.cps[i]? = some c ∧ IsTup h T #[.int (i : Int) t, .str ⟨#[c]⟩ u]) (KTurns.ofWalksU (WalksT.enumerateD D (s.heap.objs.size + 1) (Nat.succ_ne_self _) (fun hm => Nat.succ_ne_self _ (List.mem_singleton.mp hm)) (by simp)).toU) ?_ ?_ ?_ ?_ ?_ ?_ ?_ ?_ (F.keeps hk) (N.grown hk) (fun p hp => by cases hp) Inv h0 ?_ done
    · rintro i v h _ ⟨T, vals, rfl, ⟨t, y, ⟨c, u, hc, rfl⟩, rfl⟩, hT⟩
      exact ⟨T, t, c, u, rfl, hc, hT⟩
    · rintro i h ⟨⟨old, he⟩, hst'⟩
      obtain ⟨oi, hoi, hic⟩ := hcls i h hst'
      have he' : ∃ oe : Obj, h.get? (s.heap.objs.size + 1) = some oe ∧ oe.cls = .type "enumerate" := ⟨_, he, rfl⟩
      obtain ⟨oe, h1, h2⟩ := he'
      refine ⟨[(s.heap.objs.size + 1, oe), (s.heap.objs.size, oi)], ⟨⟨rfl, h2⟩, ⟨rfl, hic⟩, trivial⟩, fun p hp => ?_⟩
      rcases List.mem_cons.mp hp with rfl | hp
      · exact h1
      · rw [List.mem_singleton.mp hp]; exact hoi
    · intro b hb
      have hb' : b = s.heap.objs.size + 1 ∨ b = s.heap.objs.size := by simpa using hb
      rcases hb' with rfl | rfl
      · exact ⟨by simp, size_none F (Nat.le_add_right _ _)⟩
      · exact ⟨by simp, size_none F (Nat.le_refl _)⟩
    · intro b hb
      simpa using hb
    · intro b hb
      have hb' : b = s.heap.objs.size + 1 ∨ b = s.heap.objs.size := by simpa using hb
      rcases hb' with rfl | rfl
      · exact .inl (by simp)
      · exact .inl (by simp)
    · intro hI'
      have hb' : env.locals = s.heap.objs.size + 1 ∨ env.locals = s.heap.objs.size := by simpa using hI'
      rcases hb' with e | e
      · exact ktu_ne 1 hLs e
      · exact Nat.ne_of_lt hLs e
    · intro p hp hI'
      have hb' : p.1 = s.heap.objs.size + 1 ∨ p.1 = s.heap.objs.size := by simpa using hI'
      have hlp := news_lt N hp
      rcases hb' with e | e
      · exact ktu_ne 1 hlp e
      · exact Nat.ne_of_lt hlp e
    · exact ⟨⟨.none, hE⟩, hst⟩
    · rintro i v h tk dr m₁ news₁ hi ⟨T, t, c, u, rfl, hc, hT⟩ hI' _ F₁
      exact turn _ _ i c u T t h tk dr m₁ news₁ hi hc hT hI' F₁
  cases ha : x.cps.all (· < 128)
  · have e : strIterType x = "str_iterator" := by simp [strIterType, ha]
    have hI2 : h'.IsStrIter s.heap.objs.size "str_iterator" x t₀ 0 := e ▸ hI
    refine key _ (Draws.strWide (A := A.in1) hh s.heap.objs.size x t₀) (fun i h st => ?_) hI2
    obtain ⟨o, ho, hc, _⟩ := st
    exact ⟨o, ho, by rw [e]; exact hc⟩
  · have e : strIterType x = "str_ascii_iterator" := by simp [strIterType, ha]
    have hI2 : h'.IsStrIter s.heap.objs.size "str_ascii_iterator" x t₀ 0 := e ▸ hI
    refine key _ (Draws.strAscii (A := A.in1) hh s.heap.objs.size x t₀) (fun i h st => ?_) hI2
    obtain ⟨o, ho, hc, _⟩ := st
    exact ⟨o, ho, by rw [e]; exact hc⟩
end
end Mine
end
section
-- St
open PySem PySem.W PyProof.Rows PySem.Spec PySem.Calls
set_option maxRecDepth 100000
set_option maxHeartbeats 4000000
namespace Mine
abbrev one (c : Nat) : Str := ⟨#[c]⟩
theorem put_led (t : SetTable) (j : Nat) : (t.put j).1.led = t.led := rfl
theorem put_plain (t : SetTable) (j : Nat) : (t.put j).1.plain = t.plain := rfl
theorem layNew_led (t : SetTable) (es : Array (Int × Value)) (h : Int) (x : Value) : (layNew t es h x).2.1.led = t.led := by
  unfold layNew
  split
  · dsimp only [SetTable.orStandIn]
    split
    · rfl
    · rfl
  · rfl
theorem layNew_plain (t : SetTable) (es : Array (Int × Value)) (h : Int) (x : Value) (hp : t.plain = false) : (layNew t es h x).2.1.plain = false := by
  unfold layNew
  split
  · dsimp only [SetTable.orStandIn]
    split
    · exact hp
    · rfl
  · rfl
theorem laid_led {mask finger moves : Nat} {led plain : Bool} {hashes : Array Int} {r : SetTable × Array Nat} (h : SetTable.laid mask finger moves led plain hashes = some r) : r.1.led = led ∧ r.1.plain = plain := by
  unfold SetTable.laid at h
  cases e : SetTable.layClean mask hashes with
  | none => rw [e] at h; cases h
  | some owner => rw [e] at h; cases h; exact ⟨rfl, rfl⟩
theorem relayAll_led (t : SetTable) (es : Array (Int × Value)) (n : Nat) : (relayAll t es n).2.1.led = t.led := by
  unfold relayAll
  split
  · rename_i t' order e
    have := laid_led e
    dsimp only
    split
    · exact this.1
    · rfl
  · rfl
theorem relayAll_plain (t : SetTable) (es : Array (Int × Value)) (n : Nat) (hp : t.plain = false) : (relayAll t es n).2.1.plain = false := by
  unfold relayAll
  split
  · rename_i t' order e
    have := laid_led e
    dsimp only
    split
    · exact this.2.trans hp
    · rfl
  · rfl
/-- a set of signs -/
def SignObj (prog : Program) (w : World) (o : Obj) (ks : List Nat) (led pl : Bool) : Prop :=
  o.ExactSet ∧ ∃ es ep t, o.data = .set es ep t ∧ ElemsOf (PySem.strKind prog w) es.toList ∧ (es.toList.map fun e => strOf e.2).Perm (ks.map one) ∧ t.fits es.size = true ∧ t.led = led ∧ t.plain = pl
def SignSet (prog : Program) (w : World) (h : Heap) (a : Addr) (ks : List Nat) (led pl : Bool) : Prop := ∃ o, h.get? a = some o ∧ SignObj prog w o ks led pl
section
variable {prog : Program} {w : World} {A : Around} {E : Value → Shared → Prop} {s : Shared}
theorem isStrOf_strOf {k : Str} {v : Value} (h : (PySem.strKind prog w).is k v = true) : strOf v = k := by
  obtain ⟨t, rfl⟩ := Value.isStrOf_shape h
  rfl
theorem scannable_str (x : Str) (u : Tok) : (Value.str x u).scannable = true := rfl
theorem sign_store {h : Heap} {a : Addr} {o : Obj} {es : Array (Int × Value)} {ep : Nat} {t : SetTable} (ho : h.get? a = some o) (hex : o.ExactSet) (hd : o.data = .set es ep t) (es' : Array (Int × Value)) (t' : SetTable) :
    ∃ o', (h.update a (Obj.putSet es' t')).get? a = some o' ∧ o'.ExactSet ∧ o'.data = .set es' (ep + 1) t' := by
  have hg : (h.update a (Obj.putSet es' t')).get? a = some { o with data := .set es' (ep + 1) t' } := by
    have := Heap.get?_update_self (Obj.putSet es' t') ho (by rw [putSet_of es' t' hd]; rfl)
    rw [putSet_of es' t' hd] at this; exact this
  exact ⟨_, hg, hex, rfl⟩
theorem add_sign {a : Addr} {ks : List Nat} {led pl : Bool} {c : Nat} {u : Tok} {Q : Bool → Shared → Prop} (hS : SignSet prog w s.heap a ks led pl) (hc : c ∉ ks) (hroom : ks.length + 1 < scanBound)
    (h : ∀ h', Heap.SameBut a s.heap h' → SignSet prog w h' a (ks ++ [c]) led false → Q true { s with heap := h' }) :
    wpAny (model prog w) A (setAddHashed a (.str (one c) u) ((PySem.strKind prog w).hash (one c))) Q E s := by
  obtain ⟨o, ho, hex, es, ep, t, hd, hel, hperm0, hf, hled, hpl⟩ := hS
  have hkey : (PySem.strKind prog w).is (one c) (.str (one c) u) = true := strKind_is prog w (one c) u
  have hsz : es.size = ks.length := by
    have := hperm0.length_eq
    simpa using this
  have hb : es.size < scanBound := by omega
  have hfind : List.findIdx? (fun e => (PySem.strKind prog w).is (one c) e.2) es.toList = none := by
    rw [List.findIdx?_eq_none_iff]
    intro e he
    cases hq : (PySem.strKind prog w).is (one c) e.2 with
    | false => rfl
    | true =>
      have h1 := isStrOf_strOf hq
      have h2 : one c ∈ ks.map one := hperm0.mem_iff.mp (List.mem_map.mpr ⟨e, he, h1⟩)
      obtain ⟨c', hc', e'⟩ := List.mem_map.mp h2
      have h3 : (#[c'] : Array Nat) = #[c] := congrArg Str.cps e'
      have : c' = c := by simpa using h3
      exact absurd (this ▸ hc') hc
  unfold setAddHashed setAddHashedIn
  refine wpAny_holding (wpAny_bind (wpAny_setState_of ho hd hf ?_))
  dsimp only
  rw [byScan_of (scannable_str _ _) hb hel]
  simp only [↓reduceIte]
  unfold setAddByScan
  refine wpAny_bind ?_
  refine wpAny_bind (wpAny_rule ?_)
  refine wpAny_bind (wpAny_setScan_of hkey ho hd hf hel ?_)
  rw [hfind]
  dsimp only
  have hgw : ∀ (b : Bool) {s₁ : Shared} {Q' : Unit → Shared → Prop}, Q' () s₁ → wpAny (model prog w) A (match b with | true => rule "set.scan.the-table-gave-way" | false => pure ()) Q' E s₁ :=
    fun b s₁ Q' hq => by cases b <;> first | exact wpAny_pure hq | exact wpAny_rule hq
  have hperm := layNew_perm t es ((PySem.strKind prog w).hash (one c)) (.str (one c) u)
  have hfits := layNew_fits t es ((PySem.strKind prog w).hash (one c)) (.str (one c) u)
  have hl1 := layNew_led t es ((PySem.strKind prog w).hash (one c)) (.str (one c) u)
  have hp1 := layNew_plain t es ((PySem.strKind prog w).hash (one c)) (.str (one c) u)
  generalize hL : layNew t es ((PySem.strKind prog w).hash (one c)) (.str (one c) u) = L at hperm hfits hl1 hp1 ⊢
  obtain ⟨es1, t1, wasDummy, gave⟩ := L
  dsimp only at hperm hfits hl1 hp1 ⊢
  rw [Array.toList_push] at hperm
  have hel1 : ElemsOf (PySem.strKind prog w) es1.toList := (hel.push hkey (scannable_str _ _)).perm hperm
  have hk1 : (es1.toList.map fun e => strOf e.2).Perm ((ks ++ [c]).map one) := by
    refine (hperm.map _).trans ?_
    rw [List.map_append, List.map_append]
    exact hperm0.append (List.Perm.refl _)
  have hsz1 : es1.size = es.size + 1 := by rw [← Array.length_toList, hperm.length_eq, List.length_append, Array.length_toList]; rfl
  have hb1 : es1.size < scanBound := by omega
  refine wpAny_bind (hgw _ ?_)
  have tail : ∀ (t2 : SetTable), t2.fits es1.size = true → t2.led = led → t2.plain = false → wpAny (model prog w) A (do
        storeSet a es1 t2
        if (!wasDummy && t2.tooFull) = true then do
            (fun b : Bool => (match b with | true => rule "set.scan.the-table-gave-way" | false => pure () : Sem Unit)) (relayAll t2 es1 (SetTable.grown es1.size)).2.2
            storeSet a (relayAll t2 es1 (SetTable.grown es1.size)).1 (relayAll t2 es1 (SetTable.grown es1.size)).2.1
            pure (some true)
          else pure (some true)) (fun r s' => wpAny (model prog w) A (match r with | some added => pure added | none => setAddHashedIn a (.str (one c) u) ((PySem.strKind prog w).hash (one c)) 99999) Q E s') E s := by
    intro t2 hf2 hl2 hp2
    refine wpAny_bind (wpAny_storeSet_of ho hd ?_ (fits_of_scanBound hb1))
    obtain ⟨o1, ho1, hex1, hd1⟩ := sign_store ho hex hd es1 t2
    have hsb1 := Heap.SameBut.update s.heap a (Obj.putSet es1 t2)
    split
    · have hp := relayAll_perm t2 es1 (SetTable.grown es1.size)
      have hfr := relayAll_fits t2 es1 (SetTable.grown es1.size)
      have hlr := relayAll_led t2 es1 (SetTable.grown es1.size)
      have hpr := relayAll_plain t2 es1 (SetTable.grown es1.size) hp2
      generalize hRl : relayAll t2 es1 (SetTable.grown es1.size) = Rl at hp hfr hlr hpr ⊢
      obtain ⟨es2, t3, gave2⟩ := Rl
      dsimp only at hp hfr hlr hpr ⊢
      have hsz2 : es2.size = es1.size := by rw [← Array.length_toList, hp.length_eq, Array.length_toList]
      refine wpAny_bind (hgw _ ?_)
      refine wpAny_bind (wpAny_storeSet_of ho1 hd1 ?_ (fits_of_scanBound (by rw [hsz2]; exact hb1)))
      obtain ⟨o2, ho2, hex2, hd2⟩ := sign_store ho1 hex1 hd1 es2 t3
      refine wpAny_pure (wpAny_pure (h _ (hsb1.trans (Heap.SameBut.update _ a _)) ⟨o2, ho2, hex2, es2, _, t3, hd2, hel1.perm hp, (hp.map _).trans hk1, hfr, hlr.trans hl2, hpr⟩))
    · exact wpAny_pure (wpAny_pure (h _ hsb1 ⟨o1, ho1, hex1, es1, _, t2, hd1, hel1, hk1, hf2, hl2, hp2⟩))
  split
  · refine wpAny_bind ?_
    rw [hashByValue_scannable 8 (scannable_str _ _)]
    refine wpAny_pure ?_
    exact tail { t1 with plain := false } (SetTable.fits_plain_off hfits) (hl1.trans hled) rfl
  · rename_i hnp
    refine wpAny_bind (wpAny_pure ?_)
    simp only [↓reduceIte]
    exact tail t1 hfits (hl1.trans hled) (by simpa using hnp)
/-- the signs go into the set, one after another -/
theorem signs_loop {I a : Addr} {fp wr : List Addr} {x : List Nat} {led : Bool} {St : Nat → Heap → Prop} {R : Result → Shared → Prop} (W : Walks prog w A.in1 I fp wr x.length (SignAt (S x)) St) (haf : a ∉ fp) (hnd : x.Nodup) (hb : x.length + 1 < scanBound) :
    ∀ (k i : Nat) (s : Shared), x.length - i = k → i ≤ x.length → St i s.heap → SignSet prog w s.heap a (x.take i) led (decide (i = 0)) →
      (∀ h' tk, (∀ b o, b ∉ a :: wr → s.heap.get? b = some o → h'.get? b = some o) → SignSet prog w h' a x led (decide (x.length = 0)) → R (.ok (.ret .none)) { s with heap := h', toks := tk }) →
      codeAny (model prog w) A (.builtin "set.update.loop" ⟨[.ref a, .ref I], []⟩) R s := by
  have haw : a ∉ wr := fun h => haf (W.sub _ h)
  intro k
  induction k with
  | zero =>
    intro i s hk hi hst hS hR
    have hin : i = x.length := by omega
    subst hin
    refine codeAny_builtin F.entry_set_update_loop ?_
    rw [Around.under_plainId F.plain_set_update_loop _]
    show wpAny _ A.in1 (pyNext (.ref I) >>= _) _ _ s
    refine wpAny_bind (W.done s _ _ hst fun h' tk hk' => ?_)
    show wpAny _ A.in1 (ret Value.none) _ _ _
    obtain ⟨o, ho, r⟩ := hS
    rw [List.take_length] at r
    exact wpAny_pure (hR h' tk (fun b o hb' e => hk' b o (fun q => hb' (List.mem_cons_of_mem _ q)) e) ⟨o, hk' a o haw ho, r⟩)
  | succ k ih =>
    intro i s hk hi hst hS hR
    have hlt : i < x.length := by omega
    refine codeAny_builtin F.entry_set_update_loop ?_
    rw [Around.under_plainId F.plain_set_update_loop _]
    show wpAny _ A.in1 (pyNext (.ref I) >>= _) _ _ s
    refine wpAny_bind (W.item i s _ _ hlt hst fun v h₁ tk hP hst' hk' => ?_)
    obtain ⟨c, u, hc, rfl⟩ := hP
    have hcx : x[i]? = some c := by simpa [S] using hc
    have hc2 : c = x[i] := by rw [List.getElem?_eq_getElem hlt] at hcx; exact (Option.some.inj hcx).symm
    have hnew : c ∉ x.take i := by
      intro hm
      obtain ⟨j, hj, e⟩ := List.mem_take_iff_getElem.mp hm
      have hj2 : j < i := by omega
      have := List.pairwise_iff_getElem.mp hnd j i (by omega) hlt hj2
      exact this (by rw [e, hc2])
    have htk : x.take (i + 1) = x.take i ++ [c] := by rw [List.take_add_one, hcx]; rfl
    obtain ⟨o, ho, r⟩ := hS
    have hS' : SignSet prog w h₁ a (x.take i) led (decide (i = 0)) := ⟨o, hk' a o haw ho, r⟩
    show wpAny _ A.in1 (holding [Value.str (one c) u] (setAdd a (.str (one c) u)) >>= _) _ _ _
    refine wpAny_bind (wpAny_holding ?_)
    unfold setAdd
    refine wpAny_holding ?_
    refine wpAny_bind ((PySem.strKind prog w).pyHash (k := one c) (strKind_is prog w (one c) u) ?_)
    refine add_sign (s := { s with heap := h₁, toks := tk + 1 }) hS' hnew (by rw [List.length_take]; omega) fun h' hsb hS2 => ?_
    rw [← htk] at hS2
    refine wpAny_pure ⟨plainId_quiet F.plain_set_update_loop _, ih (i + 1) _ (by omega) hlt ?_ hS2 fun h'' tk'' hm'' hS'' => ?_⟩
    · exact W.frame _ _ _ hst' fun b hb' o e => by rw [hsb.2 b (fun h : b = a => haf (by rw [← h]; exact hb'))]; exact e
    · refine hR h'' tk'' (fun b o hb' e => hm'' b o hb' ?_) hS''
      rw [hsb.2 b (fun h : b = a => hb' (by rw [h]; exact List.mem_cons_self))]
      exact hk' b o (fun q => hb' (List.mem_cons_of_mem _ q)) e
end
section
variable {prog : Program} {w : World} {A : Around} {E : Value → Shared → Prop} {s : Shared}
theorem new_sign (a : Value) {Q₁ : Value → Shared → Prop}
    (h : Q₁ (.ref s.heap.objs.size) { s with heap := s.heap.push { cls := .type "set", dict := none, data := .set #[] 0 (.fresh 0 0 (!w.params.followText "set-order")) } }) :
    codeAny (model prog w) A (.call (.builtin "set.__new__") ⟨[.type "set", a], []⟩) (wants Q₁ E) s := by
  refine codeAny_of_tree ?_
  show wpAny _ A.in1 (do checkBuiltinCall "set.__new__" ⟨[.type "set", a], []⟩; again (.builtin "set.__new__" ⟨[.type "set", a], []⟩)) _ _ s
  refine wpAny_bind (wpAny_of_eq (F.newCall_set_1 a) (wpAny_pure ⟨plainId_quiet F.plain_set_new _, codeAny_builtin F.entry_set_new ?_⟩))
  rw [Around.under_plainId F.plain_set_new _]
  unfold Builtin.«set.__new__» Builtin.Frozenset.newClass
  have hsub := sub_set_self
  obtain ⟨hp, g, d, tk, os⟩ := s
  dsimp only
  wp_walk
  refine wpAny_askSetting (wpAny_pure ?_)
  dsimp only
  simp only [newObj]
  refine wpAny_bind (wpAny_alloc (wpAny_pure ?_))
  exact wpAny_pure h
/-- set(text), all signs unlike -/
theorem call_set_signs {x : List Nat} {t : Tok} {Q : Value → Shared → Prop} (hh : A.handled = none) (hnd : x.Nodup) (hb : x.length + 1 < scanBound)
    (h : ∀ (h' : Heap) (tk : Nat), SignSet prog w h' s.heap.objs.size x (!w.params.followText "set-order") (decide (x.length = 0)) →
      (∀ b o, b < s.heap.objs.size → s.heap.get? b = some o → h'.get? b = some o) → Q (.ref s.heap.objs.size) { s with heap := h', toks := tk }) :
    wpAny (model prog w) A (call (.type "set") [.str (S x) t]) Q E s := by
  obtain ⟨c, tl, hmro⟩ := F.called_set.mro
  have hmade := F.called_set.made
  have hsub := F.called_set.sub
  refine wpAny_call (codeAny_of_tree ?_)
  show wpAny _ _ (callAny (.type "set") _) _ _ _
  refine wpAny_pure ⟨Code.quiet_builtin _ (by decide +kernel), codeAny_builtin F.entry_type_call ?_⟩
  rw [Around.under_plain (weight_type_call_type "set" [.str (S x) t] []) rfl]
  have h1 := F.called_set.notType
  have h2 := F.called_set.canCreate
  have hct := F.typeCall_set_1 (.str (S x) t)
  repeat (any_goals (first | assumption | wp_step))
  refine codeAny_mono (new_sign (.str (S x) t) (E := E) (Q₁ := fun obj s₁ => obj = .ref s.heap.objs.size ∧ s₁ = { s with heap := s.heap.push { cls := .type "set", dict := none, data := .set #[] 0 (.fresh 0 0 (!w.params.followText "set-order")) } }) ⟨rfl, rfl⟩) fun r s₁ hr => ?_
  cases r with
  | error e => exact hr
  | ok fl =>
    cases fl with
    | ret obj =>
      obtain ⟨rfl, rfl⟩ := hr
      generalize hled : (!w.params.followText "set-order") = led at h ⊢
      have hS : (s.heap.push { cls := .type "set", dict := none, data := .set #[] 0 (.fresh 0 0 led) }).get? s.heap.objs.size = some { cls := .type "set", dict := none, data := .set #[] 0 (.fresh 0 0 led) } := Heap.get?_push_size _ rfl
      have hT : Shared.TypeIs { s with heap := s.heap.push { cls := .type "set", dict := none, data := .set #[] 0 (.fresh 0 0 led) } } (.ref s.heap.objs.size) "set" := ⟨_, hS, rfl⟩
      have hli := F.called_set.init.lookup
      have hbi := F.called_set.init.bind (.ref s.heap.objs.size)
      repeat (any_goals (first | assumption | wp_step))
      refine codeAny_mono (codeAny_call_builtin (R := wants (fun r s₂ => r = .none ∧ ∃ h' tk, s₂ = { s with heap := h', toks := tk } ∧
          SignSet prog w h' s.heap.objs.size x led (decide (x.length = 0)) ∧
          (∀ b o, b < s.heap.objs.size → s.heap.get? b = some o → h'.get? b = some o)) E) F.called_set.init.plain F.entry_set_init (check_set_init_1 hT ?_)) fun r₂ s₂ hr₂ => ?_
      · have hs1 := F.sub_str_set
        have hs2 := F.sub_str_frozenset
        unfold Builtin.«set.__init__» noKeywords Builtin.Frozenset.updateFrom
        generalize hPI : pyIter = PI
        wp_walk
        subst hPI
        refine wpAny_pyIter_str fun oI St hW hst => ?_
        refine wpAny_bind (wpAny_runValue ?_)
        have hh3 : A.in1.in1.in1.handled = none := by simp [hh]
        have hz : (S x).cps.size = x.length := by simp [S]
        have W := hW A.in1.in1.in1 hh3
        rw [hz] at W
        refine signs_loop (led := led) W (a := s.heap.objs.size) ?_ hnd hb x.length 0 _ (by omega) (Nat.zero_le _) hst ⟨_, Heap.get?_push_of_some _ hS, ⟨rfl, rfl, rfl⟩, #[], 0, _, rfl, (fun e he => by simp at he), by simp, by rfl, rfl, rfl⟩ fun h' tk hk hS' => ?_
        · rw [Heap.size_push]; simp
        · show wpAny _ _ _ _ _ _
          refine wpAny_pure ?_
          show wpAny _ _ (ret Value.none) _ _ _
          refine wpAny_pure ⟨rfl, h', tk, rfl, hS', fun b o hb' e => hk b o ?_ (Heap.get?_push_of_some _ (Heap.get?_push_of_some _ e))⟩
          rw [Heap.size_push]; simp only [List.mem_cons, List.not_mem_nil, or_false, not_or]
          exact ⟨Nat.ne_of_lt hb', Nat.ne_of_lt (Nat.lt_succ_of_lt hb')⟩
      · cases r₂ with
        | error e => exact hr₂
        | ok fl₂ =>
          cases fl₂ with
          | ret r =>
            obtain ⟨rfl, h', tk, rfl, hS', hk'⟩ := hr₂
            repeat (any_goals (first | assumption | wp_step))
            exact h _ _ hS' hk'
          | _ => exact hr₂.elim
    | _ => exact hr.elim
end
end Mine
end
section
-- Si
open PySem PySem.W PyProof.Rows PySem.Spec PySem.Calls
set_option maxRecDepth 100000
set_option maxHeartbeats 4000000
namespace Mine
theorem own_si : Manifest.owners.lookup (String.ofList ['r', 'o', 't', 'a', 'r', 'e', 't', 'i', '_', 't', 'e', 's'].reverse) = some Manifest.sig_set_iterator := by kernel_rfl
theorem si_next : Slot "set_iterator" "__next__" "set_iterator.__next__" :=
  .of (owner := "set_iterator") (n := "__next__") (by rw [typeLookup_type, builtinLookup_eq_fast]; kernel_rfl) (by decide +kernel) (by decide +kernel) (by decide +kernel)
    (by first | exact .inl (by decide +kernel) | exact .inr (by decide +kernel)) (by rw [isSubtype_type]; kernel_rfl)
theorem si_next_entry : entryFor table "set_iterator.__next__" = some Builtin.«set_iterator.__next__» := entryFor_of_tree (by kernel_rfl)
theorem si_next_args (a : Value) : argsOk "set_iterator.__next__" ⟨[a], []⟩ := by
  unfold argsOk; rw [signature?_of (id := "set_iterator.__next__") (n := ['_', '_', 't', 'x', 'e', 'n', '_', '_']) (o := ['r', 'o', 't', 'a', 'r', 'e', 't', 'i', '_', 't', 'e', 's']) (by kernel_rfl) own_si]; kernel_rfl
theorem si_iter : Slot "set_iterator" "__iter__" "set_iterator.__iter__" :=
  .of (owner := "set_iterator") (n := "__iter__") (by rw [typeLookup_type, builtinLookup_eq_fast]; kernel_rfl) (by decide +kernel) (by decide +kernel) (by decide +kernel)
    (by first | exact .inl (by decide +kernel) | exact .inr (by decide +kernel)) (by rw [isSubtype_type]; kernel_rfl)
theorem si_iter_entry : entryFor table "set_iterator.__iter__" = some Builtin.«dict_keyiterator.__iter__» :=
  entryFor_alias (id' := "dict_keyiterator.__iter__") (by kernel_rfl) (by first | rfl | decide +kernel | (unfold String.splitOn; simp +decide [String.splitOnAux])) (by decide +kernel) (by kernel_rfl)
theorem si_iter_args (a : Value) : argsOk "set_iterator.__iter__" ⟨[a], []⟩ := by
  unfold argsOk; rw [signature?_of (id := "set_iterator.__iter__") (n := ['_', '_', 'r', 'e', 't', 'i', '_', '_']) (o := ['r', 'o', 't', 'a', 'r', 'e', 't', 'i', '_', 't', 'e', 's']) (by kernel_rfl) own_si]; kernel_rfl
theorem set_iter_entry : entryFor table "set.__iter__" = some Builtin.«frozenset.__iter__» :=
  entryFor_alias (id' := "frozenset.__iter__") (by kernel_rfl) (by first | rfl | decide +kernel | (unfold String.splitOn; simp +decide [String.splitOnAux])) (by decide +kernel) (by kernel_rfl)
/-! picking and drawing an order -/
theorem cons_eraseIdx {α : Type} : ∀ (l : List α) (i : Nat) (x : α), l[i]? = some x → (x :: l.eraseIdx i).Perm l
  | [], i, x, h => by simp at h
  | a :: l, 0, x, h => by
    simp at h; subst h; exact List.Perm.refl _
  | a :: l, i + 1, x, h => by
    have h' : l[i]? = some x := by simpa using h
    exact (List.Perm.swap a x _).trans ((cons_eraseIdx l i x h').cons a)
theorem pick_go {α : Type} (next : Nat → Nat) : ∀ (fuel k : Nat) (left : List α) (out : Array α), left.length ≤ fuel → (pickOrder.go next fuel k left out).toList.Perm (out.toList ++ left)
  | 0, k, left, out, h => by
    have : left = [] := List.length_eq_zero_iff.mp (by omega)
    subst this
    unfold pickOrder.go; simp
  | fuel + 1, k, left, out, h => by
    unfold pickOrder.go
    cases e : left[next k % left.length]? with
    | none =>
      have : left = [] := by
        cases left with
        | nil => rfl
        | cons a l =>
          rw [List.getElem?_eq_none_iff] at e
          have := Nat.mod_lt (next k) (show 0 < (a :: l).length by simp)
          omega
      subst this; simp
    | some x =>
      dsimp only
      have hl : (next k % left.length) < left.length := by
        rcases Nat.lt_or_ge (next k % left.length) left.length with q | q
        · exact q
        · rw [List.getElem?_eq_none q] at e; cases e
      refine (pick_go next fuel (k + 1) _ _ (by rw [List.length_eraseIdx, if_pos hl]; omega)).trans ?_
      rw [Array.toList_push, List.append_assoc]
      exact (List.Perm.refl _).append (cons_eraseIdx left _ x e)
theorem pick_perm {α : Type} (next : Nat → Nat) (xs : Array α) : (pickOrder next xs).toList.Perm xs.toList := by
  unfold pickOrder
  simpa using pick_go next xs.size 0 xs.toList #[] (by simp)
section
variable {M : Model} {A : Around} {E : Value → Shared → Prop}
theorem any_choose {src : Source} {n : Nat} {s : Shared} {Q : Nat → Shared → Prop} (hn : n ≠ 0) (h : ∀ i dr, i < n → Q i { s with drawn := dr }) : wpAny M A (choose src n) Q E s :=
  fun _ _ _ => ⟨hn, h _ _ (Nat.mod_lt _ (Nat.pos_of_ne_zero hn))⟩
theorem any_drawOrder {α : Type} : ∀ (n : Nat) (xs : List α) (s : Shared) (Q : List α → Shared → Prop), n = xs.length → (∀ ys dr, ys.Perm xs → Q ys { s with drawn := dr }) → wpAny M A (drawOrder n xs) Q E s
  | 0, xs, s, Q, hn, h => by
    have : xs = [] := List.length_eq_zero_iff.mp hn.symm
    subst this
    unfold drawOrder
    exact wpAny_pure (h [] s.drawn (List.Perm.refl _))
  | n + 1, [], s, Q, hn, h => by simp at hn
  | n + 1, a :: l, s, Q, hn, h => by
    unfold drawOrder
    refine wpAny_bind (any_choose (by simp) fun i dr hi => ?_)
    have e : (a :: l)[i]? = some (a :: l)[i] := List.getElem?_eq_getElem hi
    rw [e]
    dsimp only
    refine wpAny_bind (any_drawOrder n _ _ _ (by rw [List.length_eraseIdx, if_pos hi]; omega) fun ys dr' hp => ?_)
    exact wpAny_pure (h _ dr' ((hp.cons _).trans (cons_eraseIdx _ i _ e)))
end
/-! the iterator -/
def siObj (first : Value) (i : Int) (a : Addr) (n : Nat) (ep : Nat) : Obj := { cls := .type "set_iterator", data := .fields #[first, .int i 0, .ref a, .int n 0, .int ep 0] }
section
variable {prog : Program} {w : World} {A : Around} {E : Value → Shared → Prop} {s : Shared}
theorem any_byText {Q : Bool → Shared → Prop} (h : Q (w.params.followText "set-order") s) : wpAny (model prog w) A setsByText Q E s := by
  unfold setsByText
  exact wpAny_bind (wpAny_askSetting (wpAny_pure h))
theorem si_self {I : Addr} {first : Value} {i : Int} {a : Addr} {n ep : Nat} {Q : Value → Shared → Prop} (hI : s.heap.get? I = some (siObj first i a n ep)) (h : Q (.ref I) s) : wpAny (model prog w) A (pyIter (.ref I)) Q E s := by
  have hT : s.TypeIs (.ref I) "set_iterator" := ⟨_, hI, rfl⟩
  refine wpAny_pyIter_slot hT si_iter (wpAny_call_entry si_iter hT si_iter_entry ?_ (si_iter_args _))
  show wpAny _ _ (ret (.ref I)) _ _ s
  exact wpAny_pure ⟨_, rfl, "set_iterator", _, hT, si_next.lookup, h⟩
theorem si_at {I : Addr} {h : Heap} {vs : Array Value} {o : Obj} (ho : h.get? I = some o) (hd : o.data = .fields vs) (k : Nat) (x : Value) :
    (h.update I (Obj.mapFields (·.setIfInBounds k x))).get? I = some { o with data := .fields (vs.setIfInBounds k x) } := by
  have := Heap.get?_update_self (Obj.mapFields (·.setIfInBounds k x)) ho (Obj.isFreed_of_fields (Obj.data_mapFields hd _))
  rw [this]
  congr 1
  cases o
  simp only at hd
  subst hd
  rfl
theorem stop_end {α : Type} {I : Addr} {Q : Option Value → Shared → Prop} (hh : A.handled = none) (s : Shared) (hQ : ∀ h', (∀ b o, s.heap.get? b = some o → h'.get? b = some o) → Q none { s with heap := h' }) :
    wpAny (model prog w) A (do let e ← newExc (.type "StopIteration") []; raiseNew e : Sem α) (fun _ _ => False) (fun e s' => wpAny (model prog w) A (do if ← isInstance e (.type "StopIteration") then pure none else throw e : Sem (Option Value)) Q E s') s := by
  refine wpAny_bind ?_
  simp only [newExc, newTuple]
  refine wpAny_bind (wpAny_newObj_type ?_ (by size_fits))
  refine wpAny_bind (m := firstArgMember _ _) (wpAny_of_eq (a := Value.none) (by first | rfl | (simp only [firstArgMember]; rfl)) ?_)
  refine wpAny_newObj_type ?_ (by size_fits)
  simp only [raiseNew]
  refine wpAny_bind (wpAny_handled ?_)
  rw [hh]
  refine wpAny_bind (wpAny_pure (wpAny_throw ?_))
  refine wpAny_bind (wpAny_isInstance (T := "StopIteration") (b := true) ⟨_, Heap.get?_push_size _ rfl, rfl⟩ isSubtype_stop ?_)
  exact wpAny_pure (hQ _ fun b o e => Heap.get?_push_of_some _ (Heap.get?_push_of_some _ e))
end
end Mine
end
section
-- Sj
open PySem PySem.W PyProof.Rows PySem.Spec PySem.Calls
set_option maxRecDepth 100000
set_option maxHeartbeats 4000000
namespace Mine
section
variable {prog : Program} {w : World} {A : Around} {E : Value → Shared → Prop} {s : Shared}
structure SetAt (h : Heap) (a : Addr) (es : Array (Int × Value)) (ep : Nat) (t : SetTable) : Prop where
  at' : ∃ o, h.get? a = some o ∧ o.data = .set es ep t
  fits : t.fits es.size = true
theorem SetAt.keep {h h' : Heap} {a : Addr} {es : Array (Int × Value)} {ep : Nat} {t : SetTable} (x : SetAt h a es ep t) (k : ∀ o, h.get? a = some o → h'.get? a = some o) : SetAt h' a es ep t :=
  ⟨let ⟨o, ho, hd⟩ := x.at'; ⟨o, k o ho, hd⟩, x.fits⟩
theorem si_item_int {I a : Addr} {slot i n ep : Nat} {es : Array (Int × Value)} {t : SetTable} {x : Value} {nx : Nat} {Q : Option Value → Shared → Prop} (hI : s.heap.get? I = some (siObj (.int slot 0) i a n ep)) (hS : SetAt s.heap a es ep t) (hn : es.size = n)
    (hx : ∀ (A' : Around) (Q' : Option (Value × Nat) → Shared → Prop) (E' : Value → Shared → Prop), Q' (some (x, nx)) s → wpAny (model prog w) A' (setNext a slot i ep) Q' E' s)
    (hQ : ∀ h', h'.get? I = some (siObj (.int nx 0) (i + 1) a n ep) → Heap.SameBut I s.heap h' → Q (some x) { s with heap := h' }) :
    wpAny (model prog w) A (pyNext (.ref I)) Q E s := by
  obtain ⟨⟨o, ho, hd⟩, hf⟩ := hS
  have hT : s.TypeIs (.ref I) "set_iterator" := ⟨_, hI, rfl⟩
  unfold pyNext
  refine wpAny_bind (wpAny_attempt (wpAny_callSpecial?_slot (name := Str.ofString "__next__") hT si_next
    (wpAny_call_entry si_next hT si_next_entry ?_ (si_next_args _))))
  unfold Builtin.«set_iterator.__next__»
  refine wpAny_bind (m := slotArgs _ _ _) (wpAny_pure ?_)
  refine wpAny_bind (wpAny_fieldsOf hI rfl ?_)
  dsimp only [siObj]
  refine wpAny_bind (wpAny_setEntries_of ho hd hf ?_)
  rw [hn]
  simp only [bne_self_eq_false, Bool.false_eq_true, if_false, Int.toNat_natCast]
  refine wpAny_bind (hx _ _ _ ?_)
  dsimp only
  have h1 := si_at hI rfl 0 (rawInt nx)
  refine wpAny_bind (wpAny_setField hI rfl (by simp [siObj]) ?_)
  refine wpAny_bind (wpAny_setField h1 rfl (by simp) ?_)
  have h2 := si_at h1 rfl 1 (rawInt ((i : Int) + 1))
  refine wpAny_pure ⟨x, rfl, wpAny_pure (hQ _ ?_ ((Heap.SameBut.update ..).trans (Heap.SameBut.update ..)))⟩
  rw [h2]
  simp [siObj, rawInt]
theorem si_end_int {I a : Addr} {slot i n ep : Nat} {es : Array (Int × Value)} {t : SetTable} {Q : Option Value → Shared → Prop} (hh : A.handled = none) (hI : s.heap.get? I = some (siObj (.int slot 0) i a n ep)) (hS : SetAt s.heap a es ep t) (hn : es.size = n)
    (hx : ∀ (A' : Around) (Q' : Option (Value × Nat) → Shared → Prop) (E' : Value → Shared → Prop), Q' none s → wpAny (model prog w) A' (setNext a slot i ep) Q' E' s)
    (hQ : ∀ h', Heap.ExtBut I s.heap h' → Q none { s with heap := h' }) :
    wpAny (model prog w) A (pyNext (.ref I)) Q E s := by
  obtain ⟨⟨o, ho, hd⟩, hf⟩ := hS
  have hT : s.TypeIs (.ref I) "set_iterator" := ⟨_, hI, rfl⟩
  unfold pyNext
  refine wpAny_bind (wpAny_attempt (wpAny_callSpecial?_slot (name := Str.ofString "__next__") hT si_next
    (wpAny_call_entry si_next hT si_next_entry ?_ (si_next_args _))))
  unfold Builtin.«set_iterator.__next__»
  refine wpAny_bind (m := slotArgs _ _ _) (wpAny_pure ?_)
  refine wpAny_bind (wpAny_fieldsOf hI rfl ?_)
  dsimp only [siObj]
  refine wpAny_bind (wpAny_setEntries_of ho hd hf ?_)
  rw [hn]
  simp only [bne_self_eq_false, Bool.false_eq_true, if_false, Int.toNat_natCast]
  refine wpAny_bind (hx _ _ _ ?_)
  dsimp only
  refine wpAny_bind (wpAny_setField hI rfl (by simp [siObj]) ?_)
  refine wpAny_bind ?_
  simp only [newExc, newTuple]
  refine wpAny_bind (wpAny_newObj_type ?_ (by size_fits))
  refine wpAny_bind (m := firstArgMember _ _) (wpAny_of_eq (a := Value.none) (by first | rfl | (simp only [firstArgMember]; rfl)) ?_)
  refine wpAny_newObj_type ?_ (by size_fits)
  simp only [raiseNew]
  refine wpAny_bind (wpAny_handled ?_)
  first | rw [show A.in1.handled = none from hh] | rw [hh]
  refine wpAny_bind (wpAny_pure (wpAny_throw ?_))
  refine wpAny_bind (wpAny_isInstance (T := "StopIteration") (b := true) ⟨_, Heap.get?_push_size _ rfl, rfl⟩ isSubtype_stop ?_)
  exact wpAny_pure (hQ _ (((Heap.SameBut.update ..).extBut.push _).push _))
theorem si_item_ref {I a T : Addr} {i n ep : Nat} {es : Array (Int × Value)} {t : SetTable} {pl : Array Value} {p : Nat} {e : Int × Value} {Q : Option Value → Shared → Prop} (hI : s.heap.get? I = some (siObj (.ref T) i a n ep)) (hS : SetAt s.heap a es ep t) (hn : es.size = n) (hp : s.heap.IsTuple T pl) (hi : pl[i]? = some (.int p 0)) (he : es[p]? = some e)
    (hQ : ∀ h', h'.get? I = some (siObj (.ref T) (i + 1) a n ep) → Heap.SameBut I s.heap h' → Q (some e.2) { s with heap := h' }) :
    wpAny (model prog w) A (pyNext (.ref I)) Q E s := by
  obtain ⟨⟨o, ho, hd⟩, hf⟩ := hS
  obtain ⟨ot, hot, _, nt, hdt⟩ := hp
  have hT : s.TypeIs (.ref I) "set_iterator" := ⟨_, hI, rfl⟩
  unfold pyNext
  refine wpAny_bind (wpAny_attempt (wpAny_callSpecial?_slot (name := Str.ofString "__next__") hT si_next
    (wpAny_call_entry si_next hT si_next_entry ?_ (si_next_args _))))
  unfold Builtin.«set_iterator.__next__»
  refine wpAny_bind (m := slotArgs _ _ _) (wpAny_pure ?_)
  refine wpAny_bind (wpAny_fieldsOf hI rfl ?_)
  dsimp only [siObj]
  refine wpAny_bind (wpAny_setEntries_of ho hd hf ?_)
  rw [hn]
  simp only [bne_self_eq_false, Bool.false_eq_true, if_false, Int.toNat_natCast]
  refine wpAny_bind (wpAny_seqItems hot hdt ?_)
  dsimp only
  rw [hi]
  dsimp only
  refine wpAny_bind ?_
  unfold setNextDrawn
  refine wpAny_bind (wpAny_setState_of ho hd hf ?_)
  dsimp only
  simp only [bne_self_eq_false, Bool.false_eq_true, if_false, Int.toNat_natCast, he]
  refine wpAny_pure ?_
  refine wpAny_bind (wpAny_setField hI rfl (by simp [siObj]) ?_)
  have h2 := si_at hI rfl 1 (rawInt ((i : Int) + 1))
  refine wpAny_pure ⟨_, rfl, wpAny_pure (hQ _ ?_ (Heap.SameBut.update ..))⟩
  rw [h2]
  simp [siObj, rawInt]
theorem si_end_ref {I a T : Addr} {i n ep : Nat} {es : Array (Int × Value)} {t : SetTable} {pl : Array Value} {Q : Option Value → Shared → Prop} (hh : A.handled = none) (hI : s.heap.get? I = some (siObj (.ref T) i a n ep)) (hS : SetAt s.heap a es ep t) (hn : es.size = n) (hp : s.heap.IsTuple T pl) (hi : pl[i]? = none)
    (hQ : ∀ h', Heap.ExtBut I s.heap h' → Q none { s with heap := h' }) :
    wpAny (model prog w) A (pyNext (.ref I)) Q E s := by
  obtain ⟨⟨o, ho, hd⟩, hf⟩ := hS
  obtain ⟨ot, hot, _, nt, hdt⟩ := hp
  have hT : s.TypeIs (.ref I) "set_iterator" := ⟨_, hI, rfl⟩
  unfold pyNext
  refine wpAny_bind (wpAny_attempt (wpAny_callSpecial?_slot (name := Str.ofString "__next__") hT si_next
    (wpAny_call_entry si_next hT si_next_entry ?_ (si_next_args _))))
  unfold Builtin.«set_iterator.__next__»
  refine wpAny_bind (m := slotArgs _ _ _) (wpAny_pure ?_)
  refine wpAny_bind (wpAny_fieldsOf hI rfl ?_)
  dsimp only [siObj]
  refine wpAny_bind (wpAny_setEntries_of ho hd hf ?_)
  rw [hn]
  simp only [bne_self_eq_false, Bool.false_eq_true, if_false, Int.toNat_natCast]
  refine wpAny_bind (wpAny_seqItems hot hdt ?_)
  dsimp only
  rw [hi]
  dsimp only
  have h1 := si_at hI rfl 0 (rawInt 0)
  refine wpAny_bind (wpAny_setField hI rfl (by simp [siObj]) ?_)
  refine wpAny_bind (wpAny_setField h1 rfl (by simp) ?_)
  refine wpAny_bind ?_
  simp only [newExc, newTuple]
  refine wpAny_bind (wpAny_newObj_type ?_ (by size_fits))
  refine wpAny_bind (m := firstArgMember _ _) (wpAny_of_eq (a := Value.none) (by first | rfl | (simp only [firstArgMember]; rfl)) ?_)
  refine wpAny_newObj_type ?_ (by size_fits)
  simp only [raiseNew]
  refine wpAny_bind (wpAny_handled ?_)
  first | rw [show A.in1.handled = none from hh] | rw [hh]
  refine wpAny_bind (wpAny_pure (wpAny_throw ?_))
  refine wpAny_bind (wpAny_isInstance (T := "StopIteration") (b := true) ⟨_, Heap.get?_push_size _ rfl, rfl⟩ isSubtype_stop ?_)
  exact wpAny_pure (hQ _ ((((Heap.SameBut.update ..).trans (Heap.SameBut.update ..)).extBut.push _).push _))
/-! setNext, two ways -/
theorem next_text {a : Addr} {i ep slot : Nat} {es : Array (Int × Value)} {t : SetTable} (hS : SetAt s.heap a es ep t) (hb : w.params.followText "set-order" = true) {Q : Option (Value × Nat) → Shared → Prop}
    (h : Q (((pickOrder (w.params.setOrder a ep) es)[i]?).map fun e => (e.2, slot)) s) : wpAny (model prog w) A (setNext a slot i ep) Q E s := by
  obtain ⟨⟨o, ho, hd⟩, hf⟩ := hS
  unfold setNext
  refine wpAny_bind (wpAny_setState_of ho hd hf ?_)
  dsimp only
  refine wpAny_bind (any_byText ?_)
  rw [hb]
  simp only [if_true, bne_self_eq_false, Bool.false_eq_true, if_false]
  refine wpAny_bind ?_
  unfold setWalk
  refine wpAny_bind (wpAny_setState_of ho hd hf ?_)
  dsimp only
  refine wpAny_bind (any_byText ?_)
  rw [hb]
  simp only [if_true]
  refine wpAny_bind (wpAny_askSetting (wpAny_pure ?_))
  exact wpAny_pure h
theorem below_one (j k : Nat) : SetTable.below #[j] k = if j < k then 1 else 0 := by
  unfold SetTable.below SetTable.below.go
  simp
  split <;> simp [SetTable.below.go]
theorem next_lone {a : Addr} {i ep slot : Nat} {e : Int × Value} {j : Nat} {t : SetTable} (hS : SetAt s.heap a #[e] ep t) (hb : w.params.followText "set-order" = false) (hl : t.led = true) (hp : t.place = #[j]) {Q : Option (Value × Nat) → Shared → Prop}
    (h : Q (if j < slot then none else some (e.2, j + 1)) s) : wpAny (model prog w) A (setNext a slot i ep) Q E s := by
  obtain ⟨⟨o, ho, hd⟩, hf⟩ := hS
  unfold setNext
  refine wpAny_bind (wpAny_setState_of ho hd hf ?_)
  dsimp only
  refine wpAny_bind (any_byText ?_)
  rw [hb]
  simp only [Bool.false_eq_true, if_false]
  have hd2 : (!t.plain && decide ((#[e] : Array (Int × Value)).size > 1)) = false := by simp
  refine wpAny_ite_split (fun hab => absurd (hd2.symm.trans hab) Bool.false_ne_true) (fun _ => ?_)
  refine wpAny_bind ?_
  show wpAny _ _ (if (!t.led && !(#[e] : Array (Int × Value)).isEmpty) = true then unsupported "set:maker-not-led" else pure PUnit.unit) _ _ _
  rw [hl]
  simp only [Bool.not_true, Bool.false_and, Bool.false_eq_true, if_false]
  refine wpAny_pure ?_
  rw [hp, below_one]
  by_cases hj : j < slot
  · rw [if_pos hj] at h ⊢
    exact wpAny_pure h
  · rw [if_neg hj] at h ⊢
    exact wpAny_pure h
end
end Mine
end
section
-- Sk
open PySem PySem.W PyProof.Rows PySem.Spec PySem.Calls
set_option maxRecDepth 100000
set_option maxHeartbeats 4000000
namespace Mine
section
variable {prog : Program} {w : World} {A : Around} {E : Value → Shared → Prop} {s : Shared}
theorem walks_text {I a : Addr} {n ep : Nat} {es : Array (Int × Value)} {t : SetTable} {A : Around} (hh : A.handled = none) (hne : a ≠ I) (hn : es.size = n) (hb : w.params.followText "set-order" = true) :
    Walks prog w A I [I, a] [I] ((pickOrder (w.params.setOrder a ep) es).toList.map (·.2)).length (fun i v => ((pickOrder (w.params.setOrder a ep) es).toList.map (·.2))[i]? = some v)
      (fun i h => h.get? I = some (siObj (.int (0 : Nat) 0) (i : Nat) a n ep) ∧ SetAt h a es ep t) where
  sub := fun b hb => by simp at hb; simp [hb]
  frame := fun i h h' st hk => ⟨hk I (by simp) _ st.1, st.2.keep fun o e => hk a (by simp) o e⟩
  item := fun i s Q E hi st hQ => by
    have hi2 : i < (pickOrder (w.params.setOrder a ep) es).size := by simpa using hi
    have e : (pickOrder (w.params.setOrder a ep) es)[i]? = some (pickOrder (w.params.setOrder a ep) es)[i] := Array.getElem?_eq_getElem hi2
    refine si_item_int (x := (pickOrder (w.params.setOrder a ep) es)[i].2) (nx := 0) st.1 st.2 hn (fun A' Q' E' hq => next_text st.2 hb (by rw [e]; exact hq)) fun h' h1 hs => ?_
    exact hQ _ h' s.toks (by simp [e]) ⟨by simpa using h1, st.2.keep fun o x => by rw [hs.2 a hne]; exact x⟩ fun b o hb' x => by rw [hs.2 b (fun q => hb' (by simp [q]))]; exact x
  done := fun s Q E st hQ => by
    have e : (pickOrder (w.params.setOrder a ep) es)[(((pickOrder (w.params.setOrder a ep) es).toList.map (·.2)).length)]? = none := by simp
    exact si_end_int hh st.1 st.2 hn (fun A' Q' E' hq => next_text st.2 hb (by rw [e]; exact hq)) fun h' he => hQ h' s.toks fun b o hb' x => he b o (fun q => hb' (by simp [q])) x
  self := fun i s Q E st hQ => si_self st.1 hQ
theorem walks_lone {I a : Addr} {ep j : Nat} {e : Int × Value} {t : SetTable} {A : Around} (hh : A.handled = none) (hne : a ≠ I) (hb : w.params.followText "set-order" = false) (hl : t.led = true) (hp : t.place = #[j]) :
    Walks prog w A I [I, a] [I] [e.2].length (fun i v => [e.2][i]? = some v)
      (fun i h => h.get? I = some (siObj (.int ((if i = 0 then 0 else j + 1 : Nat) : Nat) 0) (i : Nat) a 1 ep) ∧ SetAt h a #[e] ep t) where
  sub := fun b hb => by simp at hb; simp [hb]
  frame := fun i h h' st hk => ⟨hk I (by simp) _ st.1, st.2.keep fun o e => hk a (by simp) o e⟩
  item := fun i s Q E hi st hQ => by
    have hi0 : i = 0 := by simp at hi; exact hi
    subst hi0
    refine si_item_int (x := e.2) (nx := j + 1) st.1 st.2 rfl (fun A' Q' E' hq => next_lone st.2 hb hl hp (by simpa using hq)) fun h' h1 hs => ?_
    exact hQ _ h' s.toks (by simp) ⟨by simpa using h1, st.2.keep fun o x => by rw [hs.2 a hne]; exact x⟩ fun b o hb' x => by rw [hs.2 b (fun q => hb' (by simp [q]))]; exact x
  done := fun s Q E st hQ => by
    refine si_end_int (slot := j + 1) (i := 1) hh (by simpa using st.1) st.2 rfl (fun A' Q' E' hq => next_lone st.2 hb hl hp (by simpa using hq)) fun h' he => hQ h' s.toks fun b o hb' x => he b o (fun q => hb' (by simp [q])) x
  self := fun i s Q E st hQ => si_self st.1 hQ
theorem walks_drawn {I a T : Addr} {n ep : Nat} {es : Array (Int × Value)} {t : SetTable} {A : Around} {ys : List Nat} (hh : A.handled = none) (hne : a ≠ I) (hT : T ≠ I) (hn : es.size = n) (hy : ys.Perm (List.range n)) :
    Walks prog w A I [I, a, T] [I] (ys.map fun p => (es.getD p default).2).length (fun i v => (ys.map fun p => (es.getD p default).2)[i]? = some v)
      (fun i h => h.get? I = some (siObj (.ref T) (i : Nat) a n ep) ∧ SetAt h a es ep t ∧ h.IsTuple T (ys.map fun i : Nat => rawInt i).toArray) where
  sub := fun b hb => by simp at hb; simp [hb]
  frame := fun i h h' st hk => ⟨hk I (by simp) _ st.1, st.2.1.keep fun o e => hk a (by simp) o e, st.2.2.at fun o e => hk T (by simp) o e⟩
  item := fun i s Q E hi st hQ => by
    have hi2 : i < ys.length := by simpa using hi
    have hp : ys[i] < es.size := by
      have : ys[i] ∈ List.range n := hy.mem_iff.mp (List.getElem_mem hi2)
      rw [hn]; exact List.mem_range.mp this
    refine si_item_ref (p := ys[i]) (e := es[ys[i]]) st.1 st.2.1 hn st.2.2 (by simp [rawInt, hi2]) (by simp [hp]) fun h' h1 hs => ?_
    exact hQ _ h' s.toks (by simp [hi2, hp]) ⟨by simpa using h1, st.2.1.keep fun o x => by rw [hs.2 a hne]; exact x, st.2.2.at fun o x => by rw [hs.2 T hT]; exact x⟩ fun b o hb' x => by rw [hs.2 b (fun q => hb' (by simp [q]))]; exact x
  done := fun s Q E st hQ => by
    exact si_end_ref hh st.1 st.2.1 hn st.2.2 (by simp) fun h' he => hQ h' s.toks fun b o hb' x => he b o (fun q => hb' (by simp [q])) x
  self := fun i s Q E st hQ => si_self st.1 hQ
theorem map_getD_range {α β : Type} [Inhabited α] (es : Array α) (f : α → β) : (List.range es.size).map (fun p => f (es.getD p default)) = es.toList.map f := by
  apply List.ext_getElem
  · simp
  · intro i h1 h2
    have : i < es.size := by simpa using h1
    simp [this]
theorem iter_set {a : Addr} {ks : List Nat} {Q : Value → Shared → Prop} (hS : SignSet prog w s.heap a ks (!w.params.followText "set-order") (decide (ks.length = 0))) (hne : ks ≠ []) (hbd : ks.length < 4096)
    (hQ : ∀ (I : Addr) (h' : Heap) (dr : Drawn) (vs : List Value) (fp : List Addr) (St : Nat → Heap → Prop), s.heap.objs.size ≤ I → (∀ b o, s.heap.get? b = some o → h'.get? b = some o) → (∀ b ∈ fp, b = a ∨ s.heap.objs.size ≤ b) →
      (∀ b ∈ fp, b < h'.objs.size) → (∀ A' : Around, A'.handled = none → Walks prog w A' I fp [I] vs.length (fun i v => vs[i]? = some v) St) → St 0 h' → vs.length = ks.length → (∀ v ∈ vs, ∃ x u, v = .str x u) → (vs.map strOf).Perm (ks.map one) → Q (.ref I) { s with heap := h', drawn := dr }) :
    wpAny (model prog w) A (pyIter (.ref a)) Q E s := by
  obtain ⟨o, ho, hex, es, ep, t, hd, hel, hperm, hf, hled, hpl⟩ := hS
  have hn : es.size = ks.length := by
    have := hperm.length_eq
    simpa using this
  have ha : a < s.heap.objs.size := Heap.lt_size ho
  have hk0 : ks.length ≠ 0 := fun h => hne (List.length_eq_zero_iff.mp h)
  have hT : s.TypeIs (.ref a) "set" := ⟨_, ho, hex.1⟩
  have hstr : ∀ e ∈ es.toList, ∃ x u, e.2 = .str x u := fun e he => by
    obtain ⟨⟨k, hk, _⟩, _⟩ := hel e he
    obtain ⟨u, hu⟩ := Value.isStrOf_shape hk
    exact ⟨k, u, hu⟩
  refine wpAny_pyIter_slot hT F.slot_set_iter (wpAny_call_entry F.slot_set_iter hT set_iter_entry ?_ (F.args_set_iter_1 _))
  unfold Builtin.«frozenset.__iter__» Builtin.Frozenset.slot0
  refine wpAny_bind (wpAny_bind (m := slotArgs _ _ _) (wpAny_pure (wpAny_pure ?_)))
  unfold Builtin.Frozenset.sizeOf
  refine wpAny_bind (wpAny_bind (wpAny_setEntries_of ho hd hf (wpAny_pure ?_)))
  refine wpAny_bind ?_
  refine wpAny_bind (wpAny_setState_of ho hd hf ?_)
  dsimp only
  refine wpAny_bind (any_byText (wpAny_pure ?_))
  have hnext : ∀ (s' : Shared) (first : Value) (v : Value), s'.heap.get? a = some o → (∀ I, s'.heap.objs.size = I → (s'.heap.push (siObj first 0 a ks.length ep)).get? I = some (siObj first 0 a ks.length ep) → Q (.ref I) { s' with heap := s'.heap.push (siObj first 0 a ks.length ep) }) → wpAny (model prog w) A.in1 (do ret (← newFields "set_iterator" [first, rawInt 0, .ref a, rawInt es.size, rawInt (← setEpoch a)]) : Sem Fin) (fun fin s' => ∃ v, fin = .done (.ret v) ∧ (∃ T' r, s'.TypeIs v T' ∧ typeLookup (.type T') "__next__" = pure (some r) ∧ Q v s')) E s' := by
    intro s' first v ho' h
    refine wpAny_bind (wpAny_setEpoch_of ho' hd hf ?_)
    simp only [newFields]
    refine wpAny_bind (wpAny_newObj_type ?_)
    refine wpAny_pure ⟨_, rfl, "set_iterator", _, ⟨_, Heap.get?_push_size _ rfl, rfl⟩, si_next.lookup, ?_⟩
    rw [hn]
    exact h _ rfl (Heap.get?_push_size _ rfl)
  cases hbt : w.params.followText "set-order" with
  | true =>
    simp only [Bool.not_true, Bool.false_and, Bool.false_eq_true, if_false]
    refine wpAny_bind (wpAny_pure ?_)
    refine (hnext s _ .none ho fun I hI hget => ?_)
    subst hI
    have hp := pick_perm (w.params.setOrder a ep) es
    refine hQ _ _ s.drawn _ _ _ (Nat.le_refl _) (fun b o e => Heap.get?_push_of_some _ e) (fun b hb => ?_) (fun b hb => ?_) (fun A' hA => walks_text (t := t) hA (Nat.ne_of_lt ha) hn hbt) ⟨hget, ⟨⟨o, Heap.get?_push_of_some _ ho, hd⟩, hf⟩⟩ ?_ ?_ ?_
    · rcases List.mem_cons.mp hb with rfl | hb
      · exact .inr (Nat.le_refl _)
      · exact .inl (List.mem_singleton.mp hb)
    · rw [Heap.size_push]
      rcases List.mem_cons.mp hb with rfl | hb
      · exact Nat.lt_succ_self _
      · rw [List.mem_singleton.mp hb]; exact Nat.lt_succ_of_lt ha
    · rw [List.length_map, hp.length_eq, Array.length_toList, hn]
    · intro v hv
      obtain ⟨e, he, rfl⟩ := List.mem_map.mp hv
      exact hstr e (hp.mem_iff.mp he)
    · rw [List.map_map]
      exact (hp.map _).trans hperm
  | false =>
    rw [hbt] at hled
    by_cases h1 : ks.length = 1
    · have hsz : es.size = 1 := by omega
      obtain ⟨e, rfl⟩ : ∃ e, es = #[e] := Array.size_eq_one_iff.mp hsz
      have hdr : (!false && (!t.plain && decide ((#[e] : Array (Int × Value)).size > 1))) = false := by simp
      refine wpAny_ite_split (fun hab => absurd (hdr.symm.trans hab) Bool.false_ne_true) (fun _ => ?_)
      refine wpAny_bind (wpAny_pure ?_)
      refine (hnext s _ .none ho fun I hI hget => ?_)
      subst hI
      have hpl1 : t.place.size = 1 := by
        have := hf
        simp only [SetTable.fits, Bool.and_eq_true, beq_iff_eq] at this
        exact this.1
      obtain ⟨j, hj⟩ : ∃ j, t.place = #[j] := Array.size_eq_one_iff.mp hpl1
      refine hQ _ _ s.drawn [e.2] _ _ (Nat.le_refl _) (fun b o e => Heap.get?_push_of_some _ e) (fun b hb => ?_) (fun b hb => ?_) (fun A' hA => walks_lone (ep := ep) (t := t) hA (Nat.ne_of_lt ha) hbt (by rw [hled]; rfl) hj) ⟨by rw [h1]; rw [h1] at hget; exact hget, ⟨⟨o, Heap.get?_push_of_some _ ho, hd⟩, hf⟩⟩ ?_ ?_ ?_
      · rcases List.mem_cons.mp hb with rfl | hb
        · exact .inr (Nat.le_refl _)
        · exact .inl (List.mem_singleton.mp hb)
      · rw [Heap.size_push]
        rcases List.mem_cons.mp hb with rfl | hb
        · exact Nat.lt_succ_self _
        · rw [List.mem_singleton.mp hb]; exact Nat.lt_succ_of_lt ha
      · simp [h1]
      · intro v hv
        rw [List.mem_singleton.mp hv]
        exact hstr e (by simp)
      · simpa using hperm
    · have h2 : es.size > 1 := by omega
      have hdr : (!false && (!t.plain && decide (es.size > 1))) = true := by
        rw [hpl]; simp [hk0, h2]
      refine wpAny_ite_split (fun _ => ?_) (fun hab => absurd hdr hab)
      refine wpAny_bind (any_drawOrder _ _ _ _ (by simp) fun ys dr hy => ?_)
      refine wpAny_bind (wpAny_newTuple ?_ (by rw [List.length_map, hy.length_eq, List.length_range]; exact fits_of_scanBound (by show es.size < 4096; omega)))
      have hszP : (s.heap.push { cls := .type "tuple", data := .seq (ys.map fun i : Nat => rawInt i).toArray }).objs.size = s.heap.objs.size + 1 := Heap.size_push ..
      refine hnext _ (.ref s.heap.objs.size) .none (Heap.get?_push_of_some _ ho) fun I hI hget => ?_
      have hI' : I = s.heap.objs.size + 1 := hI.symm.trans hszP
      refine hQ I _ dr _ _ _ (by omega) (fun b o e => Heap.get?_push_of_some _ (Heap.get?_push_of_some _ e)) (fun b hb => ?_) (fun b hb => ?_) (fun A' hA => walks_drawn (a := a) (T := s.heap.objs.size) (ep := ep) (t := t) (es := es) (n := ks.length) (ys := ys) hA (by rw [hI']; exact Nat.ne_of_lt (Nat.lt_succ_of_lt ha)) (by rw [hI']; exact Nat.ne_of_lt (Nat.lt_succ_self _)) hn (hn ▸ hy)) ⟨hget, ⟨⟨o, Heap.get?_push_of_some _ (Heap.get?_push_of_some _ ho), hd⟩, hf⟩, ⟨_, Heap.get?_push_of_some _ (Heap.get?_push_size _ rfl), rfl, 0, rfl⟩⟩ ?_ ?_ ?_
      · simp only [List.mem_cons, List.not_mem_nil, or_false] at hb
        rcases hb with rfl | rfl | rfl
        · exact .inr (by omega)
        · exact .inl rfl
        · exact .inr (Nat.le_refl _)
      · rw [Heap.size_push]
        have e : ({ s with drawn := dr, heap := s.heap.push { cls := .type "tuple", data := .seq (ys.map fun i : Nat => rawInt i).toArray } } : Shared).heap.objs.size = s.heap.objs.size + 1 := hszP
        rw [e]
        simp only [List.mem_cons, List.not_mem_nil, or_false] at hb
        rcases hb with rfl | rfl | rfl
        · exact Nat.lt_succ_of_le (Nat.le_of_eq hI')
        · exact Nat.lt_succ_of_lt (Nat.lt_succ_of_lt ha)
        · exact Nat.lt_succ_of_lt (Nat.lt_succ_self _)
      · rw [List.length_map, hy.length_eq, List.length_range, hn]
      · intro v hv
        obtain ⟨p, hp, rfl⟩ := List.mem_map.mp hv
        have hp2 : p < es.size := List.mem_range.mp (hy.mem_iff.mp hp)
        have e : es.getD p default = es[p] := by simp [hp2]
        rw [e]
        exact hstr _ (by simp)
      · rw [List.map_map]
        have h3 := (hy.map fun p => strOf (es.getD p default).2)
        rw [map_getD_range es (fun e => strOf e.2)] at h3
        exact h3.trans hperm
end
end Mine
end
section
-- Sm
open PySem PySem.W PyProof.Rows PySem.Spec PySem.Calls
set_option maxRecDepth 100000
set_option maxHeartbeats 4000000
namespace Mine
section
variable {prog : Program} {w : World} {A : Around} {E : Value → Shared → Prop} {s : Shared}
theorem hint_set {r : Addr} {Q : Bool → Shared → Prop} (hT : s.TypeIs (.ref r) "set") (h : Q false s) : wpAny (model prog w) A (Builtin.List.listLengthHint (.ref r)) Q E s := by
  unfold Builtin.List.listLengthHint
  refine wpAny_bind (wpAny_specialOf hT PySem.F.slot_set_len.lookup ?_)
  generalize hid : ("set.__len__" : String) = id0
  wp_delta
  rw [show splitId id0 = some ("set", "__len__") from by subst hid; decide +kernel]
  subst hid
  refine wpAny_bind (wpAny_isInstance (T := "set") (b := true) hT (by rw [isSubtype_type]; kernel_rfl) ?_)
  refine wpAny_ite_split (fun hab => absurd hab (by decide)) (fun _ => ?_)
  refine wpAny_ite_split (fun _ => ?_) (fun hab => absurd (by decide +kernel) hab)
  refine wpAny_bind (wpAny_typeOf hT ?_)
  exact wpAny_pure h
theorem items_eq {vs : List Value} {acc : Array Value} (h : ItemsOf (fun i v => vs[i]? = some v) acc vs.length) : acc.toList = vs := by
  apply List.ext_getElem?
  intro i
  rcases Nat.lt_or_ge i vs.length with q | q
  · have hsz : i < acc.size := by rw [h.1]; exact q
    have e1 : acc[i]? = some acc[i] := Array.getElem?_eq_getElem hsz
    have e2 := h.2 i _ e1
    rw [e2, Array.getElem?_toList, e1]
  · rw [List.getElem?_eq_none q, List.getElem?_eq_none (by rw [Array.length_toList, h.1]; exact q)]
theorem SignSet.at' {h h' : Heap} {a : Addr} {ks : List Nat} {led pl : Bool} (x : SignSet prog w h a ks led pl) (k : ∀ o, h.get? a = some o → h'.get? a = some o) : SignSet prog w h' a ks led pl :=
  let ⟨o, ho, r⟩ := x; ⟨o, k o ho, r⟩
theorem collect_signs {a : Addr} {ks : List Nat} {R : List Value → Shared → Prop} (hh : A.handled = none) (hS : SignSet prog w s.heap a ks (!w.params.followText "set-order") (decide (ks.length = 0))) (hne : ks ≠ []) (hbd : ks.length < 4096)
    (h : ∀ (h' : Heap) (tk : Nat) (dr : Drawn) (vs : List Value), (∀ b o, s.heap.get? b = some o → h'.get? b = some o) → s.heap.objs.size < h'.objs.size → vs.length = ks.length → (∀ v ∈ vs, ∃ x u, v = .str x u) → (vs.map strOf).Perm (ks.map one) → R vs { s with heap := h', toks := tk, drawn := dr }) :
    wpAny (model prog w) A (collect (.ref a)) R E s := by
  have ha : a < s.heap.objs.size := let ⟨o, ho, _⟩ := hS; Heap.lt_size ho
  unfold collect
  refine wpAny_bind (wpAny_runValue (codeAny_builtin entry_proto_collect' ?_))
  rw [Around.under_plainId PySem.F.plain_proto_collect _]
  show wpAny _ A.in1 (newList [] >>= fun l => again (.builtin "list.__iadd__" ⟨[l, .ref a], []⟩)) _ _ s
  refine wpAny_bind (wpAny_newObj_type ?_)
  refine wpAny_pure ⟨plainId_quiet PySem.F.plain_list_iadd _, codeAny_builtin entry_list_iadd' ?_⟩
  rw [Around.under_plainId PySem.F.plain_list_iadd _]
  have hS₁ : (s.heap.push { cls := .type "list", data := .seq ([] : List Value).toArray }).get? s.heap.objs.size = some { cls := .type "list", data := .seq #[] } := Heap.get?_push_size _ rfl
  have hsz1 : (s.heap.push { cls := .type "list", data := .seq ([] : List Value).toArray }).objs.size = s.heap.objs.size + 1 := Heap.size_push ..
  show wpAny _ A.in1 (Builtin.List.listExtendWith (.ref s.heap.objs.size) (.ref a) (.ref s.heap.objs.size)) _ _ _
  have hSset := hS.at' (h' := s.heap.push { cls := .type "list", data := .seq ([] : List Value).toArray }) fun o e => Heap.get?_push_of_some _ e
  have hT : Shared.TypeIs { s with heap := s.heap.push { cls := .type "list", data := .seq ([] : List Value).toArray } } (.ref a) "set" := let ⟨o, ho, hex, _⟩ := hSset; ⟨o, ho, hex.1⟩
  have key : wpAny (model prog w) A.in1 (Builtin.List.listExtendWith (.ref s.heap.objs.size) (.ref a) (.ref s.heap.objs.size))
      (fun fin s' => match fin with | .done f => (fun (q : Result) (s' : Shared) => ∃ (h' : Heap) (tk : Nat) (dr : Drawn) (acc' : Array Value) (c' : Nat) (vs : List Value), q = .ok (.ret (.ref s.heap.objs.size)) ∧ s' = { s with heap := h', toks := tk, drawn := dr } ∧
      (∀ b o, s.heap.get? b = some o → h'.get? b = some o) ∧ h'.get? s.heap.objs.size = some { cls := .type "list", dict := none, data := .seq acc' c', slots := #[] } ∧ acc'.toList = vs ∧ vs.length = ks.length ∧ (∀ v ∈ vs, ∃ x u, v = .str x u) ∧ (vs.map strOf).Perm (ks.map one)) (.ok f) s' | .again c' => c'.quiet = true ∧ codeAny (model prog w) A c' (fun (q : Result) (s' : Shared) => ∃ (h' : Heap) (tk : Nat) (dr : Drawn) (acc' : Array Value) (c' : Nat) (vs : List Value), q = .ok (.ret (.ref s.heap.objs.size)) ∧ s' = { s with heap := h', toks := tk, drawn := dr } ∧
      (∀ b o, s.heap.get? b = some o → h'.get? b = some o) ∧ h'.get? s.heap.objs.size = some { cls := .type "list", dict := none, data := .seq acc' c', slots := #[] } ∧ acc'.toList = vs ∧ vs.length = ks.length ∧ (∀ v ∈ vs, ∃ x u, v = .str x u) ∧ (vs.map strOf).Perm (ks.map one)) s') (fun e s' => False) { s with heap := s.heap.push { cls := .type "list", data := .seq ([] : List Value).toArray } } := by
    unfold Builtin.List.listExtendWith
    refine wpAny_bind (wpAny_typeOf (T := "set") hT ?_)
    have h1 : Builtin.List.listSameRef (.ref s.heap.objs.size) (.ref a) = false := by simp [Builtin.List.listSameRef, Nat.ne_of_gt ha]
    have h2 : (Value.type "set" == Value.type "list") = false := by decide
    have h3 : (Value.type "set" == Value.type "tuple") = false := by decide
    simp only [h1, h2, h3, Bool.or_false, Bool.false_eq_true, if_false]
    refine wpAny_bind (iter_set hSset hne hbd fun I h' dr vs fp St hI hk hfp hlt W hst hl hstr hp => ?_)
    have hSf : s.heap.objs.size ∉ fp := fun hm => by
      rcases hfp _ hm with e | e
      · exact absurd ha (e ▸ Nat.lt_irrefl _)
      · have e' : s.heap.objs.size + 1 ≤ s.heap.objs.size := hsz1 ▸ e
        exact absurd e' (Nat.not_succ_le_self _)
    have hSI : s.heap.objs.size ≠ I := fun e => by
      have e' : s.heap.objs.size + 1 ≤ I := hsz1 ▸ hI
      exact absurd (e ▸ e') (Nat.not_succ_le_self _)
    have go : ∀ (h₂ : Heap) (c₁ tk : Nat), St 0 h₂ → (∀ b o, s.heap.get? b = some o → h₂.get? b = some o) → h₂.get? s.heap.objs.size = some { cls := .type "list", data := .seq #[] c₁ } →
        codeAny (model prog w) A (.builtin "list.extend.loop" ⟨[.ref s.heap.objs.size, .ref I, .ref s.heap.objs.size], []⟩) (fun (q : Result) (s' : Shared) => ∃ (h' : Heap) (tk : Nat) (dr : Drawn) (acc' : Array Value) (c' : Nat) (vs : List Value), q = .ok (.ret (.ref s.heap.objs.size)) ∧ s' = { s with heap := h', toks := tk, drawn := dr } ∧
      (∀ b o, s.heap.get? b = some o → h'.get? b = some o) ∧ h'.get? s.heap.objs.size = some { cls := .type "list", dict := none, data := .seq acc' c', slots := #[] } ∧ acc'.toList = vs ∧ vs.length = ks.length ∧ (∀ v ∈ vs, ∃ x u, v = .str x u) ∧ (vs.map strOf).Perm (ks.map one)) { s with heap := h₂, toks := tk, drawn := dr } := by
      intro h₂ c₁ tk hst' hk₂ hS₂
      have hn : vs.length ≤ sizeLine := by rw [hl, sizeLine_eq]; omega
      refine codeAny_extend_loopS (W A.in1 (by simp [hh])).toS hn _ hSf _ vs.length 0 _ #[] c₁ rfl (Nat.zero_le _) hst' hS₂ (ItemsOf.nil _) fun s' acc' c' hm hS' hacc => ?_
      rw [Moved.eq_with hm]
      refine ⟨s'.heap, s'.toks, dr, acc', c', vs, rfl, rfl, fun b o e => hm.heap b o (fun hmem => ?_) (hk₂ b o e), hS', items_eq hacc, hl, hstr, hp⟩
      have hbl := Heap.lt_size e
      rcases List.mem_cons.mp hmem with e' | hmem
      · exact absurd hbl (e' ▸ Nat.lt_irrefl _)
      · have e2 := List.mem_singleton.mp hmem
        have e' : s.heap.objs.size + 1 ≤ I := hsz1 ▸ hI
        exact absurd (Nat.lt_of_lt_of_le hbl (Nat.le_of_succ_le e')) (e2 ▸ Nat.lt_irrefl _)
    have hS₂ := hk _ _ hS₁
    have hkk : ∀ b o, s.heap.get? b = some o → h'.get? b = some o := fun b o e => hk b o (Heap.get?_push_of_some _ e)
    have hT2 : Shared.TypeIs { s with heap := h', drawn := dr } (.ref a) "set" := let ⟨o, ho, hc⟩ := hT; ⟨o, hk _ _ ho, hc⟩
    refine wpAny_bind (wpAny_holding (hint_set hT2 ?_))
    refine wpAny_ite_split (fun _ => ?_) (fun _ => wpAny_pure ⟨plainId_quiet PySem.F.plain_extend_loop _, go _ 0 _ hst hkk hS₂⟩)
    refine wpAny_bind (wpAny_rule ?_)
    refine wpAny_bind ?_
    show wpAny _ _ (updateSeq s.heap.objs.size (·.push .none) >>= fun _ => updateSeq s.heap.objs.size (·.pop)) _ _ _
    refine wpAny_bind (wpAny_updateSeq hS₂ rfl ?_)
    have hS₃ := Heap.get?_update_self (Obj.mapSeq (·.push Value.none)) hS₂ rfl
    refine wpAny_updateSeq (hz := by seq_fits) hS₃ rfl ?_
    have hS₄ := Heap.get?_update_self (Obj.mapSeq (·.pop)) hS₃ rfl
    have hoff : ∀ b o, b ≠ s.heap.objs.size → h'.get? b = some o → ((h'.update s.heap.objs.size (Obj.mapSeq (·.push Value.none))).update s.heap.objs.size (Obj.mapSeq (·.pop))).get? b = some o := fun b o hb e =>
      (Heap.get?_update_other _ _ (Ne.symm hb)).trans ((Heap.get?_update_other _ _ (Ne.symm hb)).trans e)
    refine wpAny_pure ⟨plainId_quiet PySem.F.plain_extend_loop _, go _ _ _ ?_ (fun b o e => hoff b o (Nat.ne_of_lt (Heap.lt_size e)) (hkk b o e)) hS₄⟩
    exact (W A hh).frame 0 _ _ hst fun b hb o e => hoff b o (fun h => hSf (h ▸ hb)) e
  refine wpAny_mono key (fun fin s' x => ?_) fun e s' x => x.elim
  cases fin with
  | done f =>
    obtain ⟨h', tk, dr, acc', c', vs, e, rfl, hk, hS', rfl, hl, hstr, hp⟩ := x
    cases e
    show wpAny _ A (load s.heap.objs.size >>= _) _ _ _
    refine wpAny_bind (wpAny_load hS' ?_)
    exact wpAny_pure (h h' tk dr _ hk (Heap.lt_size hS') hl hstr hp)
  | again c₁ =>
    refine ⟨x.1, codeAny_mono x.2 fun q s₂ y => ?_⟩
    obtain ⟨h', tk, dr, acc', c', vs, rfl, rfl, hk, hS', rfl, hl, hstr, hp⟩ := y
    show wpAny _ A (load s.heap.objs.size >>= _) _ _ _
    refine wpAny_bind (wpAny_load hS' ?_)
    exact wpAny_pure (h h' tk dr _ hk (Heap.lt_size hS') hl hstr hp)
end
end Mine
end
section
-- Sn
open PySem PySem.W PyProof.Rows PySem.Spec PySem.Calls
set_option maxRecDepth 100000
set_option maxHeartbeats 4000000
namespace Mine
theorem rising_one : ∀ (zs : List Nat) (x : Nat), risingS (one x) (zs.map one) = true → (x :: zs).Pairwise (· ≤ ·)
  | [], x, _ => List.pairwise_singleton _ _
  | y :: r, x, h => by
    have h' : (!ltCps (one y).cps.toList (one x).cps.toList && risingS (one y) (r.map one)) = true := h
    rw [Bool.and_eq_true] at h'
    have ih := rising_one r y h'.2
    have hxy : x ≤ y := by
      rcases Nat.lt_or_ge y x with q | q
      · have h2 : ltCps [y] [x] = true := by rw [ltCps_eq]; exact decide_eq_true (List.cons_lt_cons_iff.mpr (Or.inl q))
        have h1 : (!ltCps [y] [x]) = true := h'.1
        rw [h2] at h1
        exact absurd h1 (by decide)
      · exact q
    refine List.pairwise_cons.mpr ⟨fun z hz => ?_, ih⟩
    rcases List.mem_cons.mp hz with rfl | hz
    · exact hxy
    · exact Nat.le_trans hxy ((List.pairwise_cons.mp ih).1 z hz)
theorem uniq_nat {a b : List Nat} (p : a.Perm b) (ha : a.Pairwise (· ≤ ·)) (hb : b.Pairwise (· ≤ ·)) : a = b := by
  have h1 : (a.map Int.ofNat).Pairwise (· ≤ ·) := List.pairwise_map.mpr (ha.imp fun h => Int.ofNat_le.mpr h)
  have h2 : (b.map Int.ofNat).Pairwise (· ≤ ·) := List.pairwise_map.mpr (hb.imp fun h => Int.ofNat_le.mpr h)
  have h3 := lks_uniq (p.map Int.ofNat) h1 h2
  have h4 := congrArg (List.map Int.toNat) h3
  rw [List.map_map, List.map_map] at h4
  have e : ∀ l : List Nat, l.map (Int.toNat ∘ Int.ofNat) = l := fun l => by
    rw [List.map_congr_left (g := id), List.map_id]
    intro c _; rfl
  rwa [e, e] at h4
theorem sorted_is {ss : List Str} {ks : List Nat} (p : ss.Perm (ks.map one)) (h : sortedS ss = true) (hk : ks.Pairwise (· < ·)) : ss = ks.map one := by
  have e : ss = (ss.map fun x => x.cps.getD 0 0).map one := by
    rw [List.map_map]
    symm
    rw [List.map_congr_left (g := id), List.map_id]
    intro x hx
    obtain ⟨c, _, rfl⟩ := List.mem_map.mp (p.mem_iff.mp hx)
    rfl
  have p2 : (ss.map fun x => x.cps.getD 0 0).Perm ks := by
    have h1 := p.map (fun x : Str => x.cps.getD 0 0)
    rw [List.map_map] at h1
    have e2 : ks.map ((fun x : Str => x.cps.getD 0 0) ∘ one) = ks := by
      rw [List.map_congr_left (g := id), List.map_id]
      intro c _; rfl
    rwa [e2] at h1
  have hs : (ss.map fun x => x.cps.getD 0 0).Pairwise (· ≤ ·) := by
    generalize ss.map (fun x : Str => x.cps.getD 0 0) = zs at e
    subst e
    cases zs with
    | nil => exact List.Pairwise.nil
    | cons x r => exact rising_one r x h
  rw [e, uniq_nat p2 hs (hk.imp Nat.le_of_lt)]
theorem strs_rt : ∀ {vs : List Value} {ks : List Nat}, StrsAre vs (ks.map one) → ∃ rt : RT, vs = tv rt ∧ rt.map (·.1) = ks.map fun c => [c]
  | vs, [], h => by cases h; exact ⟨[], rfl, rfl⟩
  | vs, c :: ks, h => by
    cases h with
    | cons x t h =>
      obtain ⟨rt, rfl, e⟩ := strs_rt h
      exact ⟨([c], t) :: rt, rfl, by rw [List.map_cons, e]; rfl⟩
section
variable {prog : Program} {w : World} {A : Around} {E : Value → Shared → Prop} {s : Shared}
theorem sorted_signs {h₀ : Heap} {L a : Addr} {m : Str → Option Value} {news : List (Addr × Obj)} {o : Obj} {ks : List Nat} {Q : Value → Shared → Prop} (F : Fr h₀ L s.heap m) (N : News h₀ L s.heap news) (hm : (a, o) ∈ news) (hh : A.handled = none)
    (hO : SignObj prog w o ks (!w.params.followText "set-order") (decide (ks.length = 0))) (hne : ks ≠ []) (hbd : ks.length < 60) (hk : ks.Pairwise (· < ·))
    (h : ∀ (h' : Heap) (tk : Nat) (dr : Drawn) (D : Addr) (rt : RT) (e : Nat), Fr h₀ L h' m → News h₀ L h' ((D, rowsO rt e) :: news) → rt.map (·.1) = ks.map (fun c => [c]) → Q (.ref D) { s with heap := h', toks := tk, drawn := dr }) :
    wpAny (model prog w) A (call (.builtin "sorted") [.ref a]) Q E s := by
  refine Calls.call_function_entry kind_sorted plain_sorted entry_sorted (args_sorted1 _) ?_
  unfold Builtin.«sorted»
  refine wpAny_bind (m := checkCount "sorted" 1 1 _) (wpAny_pure ?_)
  refine wpAny_bind (collect_signs (A := A.in1) hh ⟨o, (N _ hm).1, hO⟩ hne (by omega) fun h₁ tk dr vs hk₁ hlt hl hstr hp => ?_)
  refine wpAny_bind (wpAny_newList ?_ (by rw [hl, sizeLine_eq]; omega))
  have hoL : (h₁.push (seqObj "list" vs.toArray 0)).get? h₁.objs.size = some (seqObj "list" vs.toArray 0) := Heap.get?_push_size _ rfl
  show wpAny _ _ _ _ _ { s with heap := h₁.push (seqObj "list" vs.toArray 0), toks := tk, drawn := dr }
  have hS := strsAre_map vs hstr
  refine wpAny_bind (wpAny_holding (wpAny_call_entry slot_list_sort ⟨_, hoL, rfl⟩ entry_list_sort (list_sort_treeK (κ := strKind) strKind_oneLt hoL hS.keysOf (fun v₁ v₂ rest e => keyKind_strs (by rw [← e]; exact hS)) (by omega) fun st' a1 a2 => ⟨_, rfl, ?_⟩) (args_list_sort _)))
  refine wpAny_pure ⟨_, rfl, ?_⟩
  obtain ⟨ss', b1, b2, b3⟩ := sorted_out_str hS a1 a2
  have b4 := sorted_is (b2.trans hp) b3 hk
  subst b4
  obtain ⟨rt, e1, e2⟩ := strs_rt b1
  have hkeep : ∀ b o', s.heap.get? b = some o' → (sortedHeap (h₁.push (seqObj "list" vs.toArray 0)) h₁.objs.size vs ((arrOf st').map (·.2))).get? b = some o' := fun b o' e => by
    have hb : b < h₁.objs.size := Heap.lt_size (hk₁ b o' e)
    rw [sortedHeap_old (Nat.ne_of_lt hb) (by rw [size_push']; exact Nat.lt_succ_of_lt hb)]
    exact Heap.get?_push_of_some _ (hk₁ b o' e)
  obtain ⟨e3, he3⟩ := sortedHeap_at (out := (arrOf st').map (·.2)) hoL
  have hout : (arrOf st').map (·.2) = (tv rt).toArray := by
    apply Array.toList_inj.mp
    rw [e1]
  have he4 : (sortedHeap (h₁.push (seqObj "list" vs.toArray 0)) h₁.objs.size vs ((arrOf st').map (·.2))).get? h₁.objs.size = some (rowsO rt e3) := by rw [he3, hout]
  exact h _ tk dr h₁.objs.size rt e3 (F.kept hkeep) (N.kept_cons F hkeep (Nat.le_of_lt hlt) he4) e2
theorem set_signs {h₀ : Heap} {L : Addr} {m : Str → Option Value} {news : List (Addr × Obj)} {x : List Nat} {t : Tok} {Q : Value → Shared → Prop} (hh : A.handled = none) (F : Fr h₀ L s.heap m) (N : News h₀ L s.heap news) (hnd : x.Nodup) (hx : x.length ≤ 60)
    (h : ∀ (D : Addr) (h' : Heap) (tk : Nat) (o : Obj), Fr h₀ L h' m → News h₀ L h' ((D, o) :: news) → SignObj prog w o x (!w.params.followText "set-order") (decide (x.length = 0)) → Q (.ref D) { s with heap := h', toks := tk }) :
    wpAny (model prog w) A (call (.type "set") [.str (S x) t]) Q E s := by
  refine call_set_signs hh hnd (by show x.length + 1 < 4096; omega) fun h' tk hS hk => ?_
  obtain ⟨o, ho, hO⟩ := hS
  have hk' : ∀ b o, s.heap.get? b = some o → h'.get? b = some o := fun b o e => hk b o (Heap.lt_size e) e
  exact h _ h' tk o (F.kept hk') (N.kept_cons F hk' (Nat.le_refl _) ho) hO
end
end Mine
end
section
-- Rm
open PySem PySem.W PyProof.Rows PySem.Spec PySem.Calls PyProof.V
set_option maxRecDepth 100000
set_option maxHeartbeats 4000000
namespace Mine
theorem S_inj {x y : List Nat} : S x = S y ↔ x = y := by
  constructor
  · intro h
    have h1 : (S x).cps.toList = (S y).cps.toList := by rw [h]
    simpa [S] using h1
  · rintro rfl; rfl
def rdata (ls : List (List Nat)) : List PyData := ls.map fun l => PyData.str (S l)
theorem S_ok {l : List Nat} (h : ∀ c ∈ l, c < 128) : PyData.strOk (S l) = true := by
  unfold PyData.strOk S
  simp only [Array.all_eq_true']
  intro c hc
  have := h c (by simpa using hc)
  simp
  omega
theorem rd_canLay : ∀ ls : List (List Nat), (∀ l ∈ ls, ∀ c ∈ l, c < 128) → PyData.canLayAll0 (rdata ls) = true
  | [], _ => rfl
  | l :: r, h => by
    have := rd_canLay r fun l hl => h l (List.mem_cons_of_mem _ hl)
    have h2 := S_ok (h l (List.mem_cons_self ..))
    unfold rdata at *
    simp [PyData.canLayAll0, PyData.canLay0, this, h2]
theorem rd_depth : ∀ ls, PyData.depthAll (rdata ls) = 0
  | [] => rfl
  | _ :: r => by
    have := rd_depth r
    unfold rdata at *
    simp [PyData.depthAll, PyData.depth, this]
theorem rd_shaped (ls : List (List Nat)) (h : ∀ l ∈ ls, ∀ c ∈ l, c < 128) : SeqAt.shaped (.list (rdata ls)) = true := by
  simp [SeqAt.shaped, PyData.canLay0, PyData.depth, rd_canLay ls h, rd_depth]
theorem rd_sameAll : ∀ xs ys : List (List Nat), PySem.Spec.sameAll (rdata xs) (rdata ys) = decide (xs = ys)
  | [], [] => by simp [rdata, PySem.Spec.sameAll]
  | [], _ :: _ => by simp [rdata, PySem.Spec.sameAll]
  | _ :: _, [] => by simp [rdata, PySem.Spec.sameAll]
  | a :: r, b :: t => by
    have ih := rd_sameAll r t
    unfold rdata at *
    simp only [List.map_cons, PySem.Spec.sameAll, PySem.Spec.same, ih]
    by_cases h : a = b
    · by_cases h' : r = t <;> simp [h, h']
    · simp [h, S_inj]
theorem rd_same (xs ys : List (List Nat)) : PySem.Spec.same (.list (rdata xs)) (.list (rdata ys)) = decide (xs = ys) := by
  simp only [PySem.Spec.same]; exact rd_sameAll xs ys
theorem rd_carried : ∀ rt : RT, CarriedAll (tv rt) (rdata (rt.map (·.1)))
  | [] => .nil
  | (l, t) :: r => .cons (.str _ t) (rd_carried r)
theorem rd_low {rt : RT} (h : ∀ p ∈ rt, ∀ c ∈ p.1, c < 128) : ∀ l ∈ rt.map (·.1), ∀ c ∈ l, c < 128 := fun l hl => by
  obtain ⟨p, hp, rfl⟩ := List.mem_map.mp hl
  exact h p hp
section
variable {prog : Program} {w : World} {A : Around} {E : Value → Shared → Prop} {s : Shared} {a b : Addr} {r1 r2 : RT} {Q : Value → Shared → Prop}
theorem ne_rows (ha : s.heap.IsList a (tv r1).toArray) (hb : s.heap.IsList b (tv r2).toArray) (h1 : ∀ p ∈ r1, ∀ c ∈ p.1, c < 128) (h2 : ∀ p ∈ r2, ∀ c ∈ p.1, c < 128) (hu : A.units + 64 < cLine) (h : Q (.bool (!decide (r1.map (·.1) = r2.map (·.1)))) s) :
    wpAny (model prog w) A (compareOp .NotEq (.ref a) (.ref b)) Q E s :=
  ne_dataH_same (reads_newData ha (rd_carried r1)) (reads_newData hb (rd_carried r2)) (rd_shaped _ (rd_low h1)) (rd_shaped _ (rd_low h2)) hu (SeqAt.noMix_of_shape (.list .str) rfl _ _ (list_map_has fun _ => rfl) (list_map_has fun _ => rfl)) (by rw [rd_same]; exact h)
theorem eq_rows (ha : s.heap.IsList a (tv r1).toArray) (hb : s.heap.IsList b (tv r2).toArray) (h1 : ∀ p ∈ r1, ∀ c ∈ p.1, c < 128) (h2 : ∀ p ∈ r2, ∀ c ∈ p.1, c < 128) (hu : A.units + 64 < cLine) (h : Q (.bool (decide (r1.map (·.1) = r2.map (·.1)))) s) :
    wpAny (model prog w) A (compareOp .Eq (.ref a) (.ref b)) Q E s :=
  eq_dataH_same (reads_newData ha (rd_carried r1)) (reads_newData hb (rd_carried r2)) (rd_shaped _ (rd_low h1)) (rd_shaped _ (rd_low h2)) hu (SeqAt.noMix_of_shape (.list .str) rfl _ _ (list_map_has fun _ => rfl) (list_map_has fun _ => rfl)) (by rw [rd_same]; exact h)
theorem signs_rt (x : List Nat) : ∀ (n : Nat) (vs : List Value) (ks : List Nat), (∀ (j : Nat) (v : Value), vs[j]? = some v → ∃ c u, ks[j]? = some c ∧ v = .str ⟨#[c]⟩ u) → vs.length = ks.length → n = vs.length → ∃ rt : RT, vs = tv rt ∧ rt.map (·.1) = ks.map fun c => [c]
  | 0, vs, ks, h, e, hn => by
    have e1 : vs = [] := List.length_eq_zero_iff.mp hn.symm
    subst e1
    have e2 : ks = [] := List.length_eq_zero_iff.mp e.symm
    subst e2
    exact ⟨[], rfl, rfl⟩
  | n + 1, [], ks, h, e, hn => by simp at hn
  | n + 1, v :: vs, [], h, e, hn => by simp at e
  | n + 1, v :: vs, c :: ks, h, e, hn => by
    obtain ⟨c', u, hc, rfl⟩ := h 0 v rfl
    have : c = c' := by simpa using hc
    subst this
    obtain ⟨rt, rfl, e2⟩ := signs_rt x n vs ks (fun j v hv => by simpa using h (j + 1) v (by simpa using hv)) (by simpa using e) (by simpa using hn)
    exact ⟨([c], u) :: rt, rfl, by rw [List.map_cons, e2]; rfl⟩
theorem list_signs {h₀ : Heap} {L : Addr} {m : Str → Option Value} {news : List (Addr × Obj)} {x : List Nat} {t : Tok} (hh : A.handled = none) (F : Fr h₀ L s.heap m) (N : News h₀ L s.heap news) (hx : x.length ≤ 60)
    (hQ : ∀ (D : Addr) (h' : Heap) (tk : Nat) (rt : RT) (e : Nat), Fr h₀ L h' m → News h₀ L h' ((D, rowsO rt e) :: news) → rt.map (·.1) = x.map (fun c => [c]) → Q (.ref D) { s with heap := h', toks := tk }) :
    wpAny (model prog w) A (call (.type "list") [.str (S x) t]) Q E s := by
  have hl := S_length x
  refine call_list_str hh (S x) t (hn := by show (S x).length ≤ sizeLine; rw [hl, sizeLine_eq]; omega) fun h' tk acc' c' hk hS' hacc => ?_
  have hz : (S x).cps.size = x.length := by simp [S]
  obtain ⟨rt, e1, e2⟩ := signs_rt x acc'.toList.length acc'.toList x (fun j v hv => by
    obtain ⟨c, u, hc, rfl⟩ := hacc.2 j v (by simpa using hv)
    exact ⟨c, u, by simpa [S] using hc, rfl⟩) (by rw [Array.length_toList, hacc.1, hz]) rfl
  have e3 : acc' = (tv rt).toArray := by
    apply Array.toList_inj.mp
    rw [e1]
  subst e3
  exact hQ _ h' tk rt c' (F.keeps hk) (N.kept_cons F hk (Nat.le_refl _) hS') e2
end
end Mine
end
section
-- Cn
open PySem PySem.W PyProof.Rows PySem.Spec PySem.Calls PyProof.Rows.LCg PyProof.Rows.LCt
set_option maxRecDepth 100000
set_option maxHeartbeats 4000000
namespace Mine
section
variable {prog : Program} {w : World} {A : Around} {E : Value → Shared → Prop} {s : Shared} {h₀ : Heap} {L : Addr} {m : Str → Option Value} {env : Env}
theorem CompEnd.mono {s₁ : Shared} {I C D : Addr} {oI oC oD : Obj} {S : List (Addr × Obj) → Prop} {r r' : Value → List (Addr × Obj) → Prop} {y : Value} {s₂ : Shared} (h : LCg.CompEnd h₀ L m s₁ I oI C oC D oD S r y s₂) (k : ∀ n, r y n → r' y n) : LCg.CompEnd h₀ L m s₁ I oI C oC D oD S r' y s₂ := by
  obtain ⟨h', tk, news', e, F, N, o, hS, x⟩ := h
  exact ⟨h', tk, news', e, F, N, o, hS, k _ x⟩
/-- a comprehension with a test, by an invariant -/
theorem compT_ind {ct elt : PySem.Expr} {x : Str} {scope : Scope} {cl : List (Str × Addr)} {S : List (Addr × Obj) → Prop} {P : Nat → Value → Prop} {Fin : List Value → List (Addr × Obj) → Prop} {n : Nat} (Inv : Nat → List Value → List (Addr × Obj) → Prop)
    (turn : ∀ i ys news, i < n → Inv i ys news → ∀ v I oI C oC D m₂ h tk (E' : Value → Shared → Prop), P i v → NsObj oC m₂ → m₂ x = some v → Fr h₀ L h m → News h₀ L h ((I, oI) :: (C, oC) :: (D, lst ys) :: news) → Off3 I C D news → ((@Ne Nat I C) ∧ (@Ne Nat I D) ∧ (@Ne Nat C D)) →
      wpAny (model prog w) A (isTrue ct (compEnvC scope cl C env) (eval ct (compEnvC scope cl C env))) (fun ok s' => if ok = true then
        wpAny (model prog w) A (eval elt (compEnvC scope cl C env)) (LCg.CompEnd h₀ L m { s with heap := h, toks := tk } I oI C oC D (lst ys) S (fun y news' => Inv (i + 1) (ys ++ [y]) news')) E' s'
        else LCg.CompEnd h₀ L m { s with heap := h, toks := tk } I oI C oC D (lst ys) S (fun _ news' => Inv (i + 1) ys news') Value.none s') E' { s with heap := h, toks := tk })
    (fin : ∀ ys news, Inv n ys news → Fin ys news) : ∀ (k i : Nat) (ys : List Value) (news : List (Addr × Obj)), i + k = n → Inv i ys news → CompRestT prog w A h₀ L m env ct elt x scope cl s S P Fin k i ys news := by
  intro k
  induction k with
  | zero =>
    intro i ys news e hI
    have e2 : i = n := by omega
    subst e2
    exact CompRestT.zero (fin ys news hI)
  | succ k ih =>
    intro i ys news e hI
    refine CompRestT.succ fun v I oI C oC D m₂ h tk E' a b c d f g o => ?_
    refine wpAny_mono (turn i ys news (by omega) hI v I oI C oC D m₂ h tk E' a b c d f g o) (fun ok s' q => ?_) fun _ _ e => e
    cases ok with
    | true =>
      simp only [if_true] at q ⊢
      exact wpAny_mono q (fun y s'' z => CompEnd.mono z fun n' hn => ih (i + 1) _ _ (by omega) hn) fun _ _ e => e
    | false =>
      simp only [Bool.false_eq_true, if_false] at q ⊢
      exact CompEnd.mono q fun n' hn => ih (i + 1) _ _ (by omega) hn
/-- a comprehension whose test holds nowhere -/
theorem compT_none {ct elt : PySem.Expr} {x : Str} {scope : Scope} {cl : List (Str × Addr)} {S : List (Addr × Obj) → Prop} {P : Nat → Value → Prop} {Fin : List Value → List (Addr × Obj) → Prop} {n : Nat} {news : List (Addr × Obj)}
    (turn : ∀ i, i < n → ∀ v I oI C oC D m₂ h tk (E' : Value → Shared → Prop), P i v → NsObj oC m₂ → m₂ x = some v → Fr h₀ L h m → News h₀ L h ((I, oI) :: (C, oC) :: (D, lst []) :: news) → Off3 I C D news → ((@Ne Nat I C) ∧ (@Ne Nat I D) ∧ (@Ne Nat C D)) →
      wpAny (model prog w) A (isTrue ct (compEnvC scope cl C env) (eval ct (compEnvC scope cl C env))) (fun ok s' => ok = false ∧ LCg.CompEnd h₀ L m { s with heap := h, toks := tk } I oI C oC D (lst []) S (fun _ nw => nw = news) Value.none s') E' { s with heap := h, toks := tk })
    (fin : Fin [] news) : CompRestT prog w A h₀ L m env ct elt x scope cl s S P Fin n 0 [] news :=
  compT_ind (fun _ ys nw => ys = [] ∧ nw = news) (fun i ys nw hi hI v I oI C oC D m₂ h tk E' a b c d f g o => by
    obtain ⟨rfl, rfl⟩ := hI
    refine wpAny_mono (turn i hi v I oI C oC D m₂ h tk E' a b c d f g o) (fun ok s' q => ?_) fun _ _ e => e
    obtain ⟨rfl, q⟩ := q
    simp only [Bool.false_eq_true, if_false]
    exact CompEnd.mono q fun n' hn => by first | exact ⟨rfl, hn⟩ | exact ⟨trivial, hn⟩) (fun ys nw hI => by obtain ⟨rfl, rfl⟩ := hI; exact fin) n 0 [] news (by omega) ⟨rfl, rfl⟩
/-- a comprehension without a test, by an invariant -/
theorem compU_ind {elt : PySem.Expr} {x : Str} {scope : Scope} {cl : List (Str × Addr)} {S : List (Addr × Obj) → Prop} {P : Nat → Value → Prop} {Fin : List Value → List (Addr × Obj) → Prop} {n : Nat} (Inv : Nat → List Value → List (Addr × Obj) → Prop)
    (turn : ∀ i ys news, i < n → Inv i ys news → ∀ v I oI C oC D m₂ h tk (E' : Value → Shared → Prop), P i v → NsObj oC m₂ → m₂ x = some v → Fr h₀ L h m → News h₀ L h ((I, oI) :: (C, oC) :: (D, lst ys) :: news) → Off3 I C D news → ((@Ne Nat I C) ∧ (@Ne Nat I D) ∧ (@Ne Nat C D)) →
      wpAny (model prog w) A (eval elt (compEnvC scope cl C env)) (LCg.CompEnd h₀ L m { s with heap := h, toks := tk } I oI C oC D (lst ys) S (fun y news' => Inv (i + 1) (ys ++ [y]) news')) E' { s with heap := h, toks := tk })
    (fin : ∀ ys news, Inv n ys news → Fin ys news) : ∀ (k i : Nat) (ys : List Value) (news : List (Addr × Obj)), i + k = n → Inv i ys news → LCg.CompRest prog w A h₀ L m env elt x scope cl s S P Fin k i ys news := by
  intro k
  induction k with
  | zero =>
    intro i ys news e hI
    have e2 : i = n := by omega
    subst e2
    exact LCg.CompRest.zero (fin ys news hI)
  | succ k ih =>
    intro i ys news e hI
    refine LCg.CompRest.succ fun v I oI C oC D m₂ h tk E' a b c d f g o => ?_
    exact wpAny_mono (turn i ys news (by omega) hI v I oI C oC D m₂ h tk E' a b c d f g o) (fun y s'' z => CompEnd.mono z fun n' hn => ih (i + 1) _ _ (by omega) hn) fun _ _ e => e
/-- a range as a source -/
theorem src_range {Rest : Shared → (List (Addr × Obj) → Prop) → (Nat → Value → Prop) → Nat → List (Addr × Obj) → Prop} {r : Addr} {a b : Int} {t u v : Tok} {n : Nat} {news : List (Addr × Obj)}
    (hh : A.handled = none) (F : Fr h₀ L s.heap m) (N : News h₀ L s.heap news) (hr : IsRange s.heap r a b 1 t u v) (hsmall : Builtin.Range.small a b 1 = true) (hn : Builtin.Range.rangeSize a b 1 = (n : Int)) (hsz : n ≤ sizeLine)
    (h : ∀ g, Rest { s with heap := g } (fun _ => True) (fun i v => ∃ t, v = .int (a + i) t) n news) :
    wpAny (model prog w) A (pyIter (.ref r)) (SrcW prog w A h₀ L m Rest) E s := by
  refine wpAny_pyIter_range hr hsmall ?_
  rw [hn]
  have up : ∀ b o, s.heap.get? b = some o → (s.heap.push { cls := .type "range_iterator", data := .fields #[rawInt a, rawInt (n : Int), rawInt 1] }).get? b = some o := fun b o e => Heap.get?_push_of_some _ e
  have W := Walks.range (prog := prog) (w := w) (A := A) hh s.heap.objs.size a 1 n
  refine ⟨s.heap.objs.size, [s.heap.objs.size], n, fun i v => ∃ t, v = .int (a + i) t, fun i h => IsRangeIter h s.heap.objs.size (a + (i : Nat) * 1) ((n : Int) - (i : Nat)) 1, fun _ => True, news, rfl, ?_, hsz, fun i h st => ⟨_, st⟩,
    fun i h h' o nw st e e' _ N' S => ?_, ?_, fun b hb => ?_, F.keeps up, N.grown up, Nat.ne_of_lt F.ns.lt, next_is_new F, fun p hp => Nat.ne_of_lt (Heap.lt_size (N p hp).1), trivial, h _⟩
  · have e : (fun (i : Nat) (v : Value) => ∃ t, v = .int (a + i) t) = fun (i : Nat) (v : Value) => ∃ t, v = Value.int (a + i * 1) t := by
      funext i v; rw [Int.mul_one]
    rw [e]; exact W
  · have st' : h.get? s.heap.objs.size = some _ := st
    rw [e] at st'
    show h'.get? s.heap.objs.size = _
    rw [e', st']
  · show (s.heap.push _).get? s.heap.objs.size = _
    rw [Heap.get?_push_size _ rfl]; simp
  · rw [Heap.size_push, List.mem_singleton.mp hb]; exact Nat.lt_succ_self _
/-- a list of the ledger as a source -/
theorem src_list {Rest : Shared → (List (Addr × Obj) → Prop) → (Nat → Value → Prop) → Nat → List (Addr × Obj) → Prop} {ax : Addr} {its : Array Value} {k : Nat} {news : List (Addr × Obj)}
    (hh : A.handled = none) (F : Fr h₀ L s.heap m) (N : News h₀ L s.heap news) (hm : (ax, listOf its k) ∈ news) (hsz : its.size ≤ sizeLine)
    (h : ∀ g, Rest { s with heap := g } (fun nw => (ax, listOf its k) ∈ nw) (fun i v => its[i]? = some v) its.size news) :
    wpAny (model prog w) A (pyIter (.ref ax)) (SrcW prog w A h₀ L m Rest) E s := by
  have ht : s.heap.IsList ax its := ⟨_, (N _ hm).1, rfl, k, rfl⟩
  have hlt : ax < s.heap.objs.size := Heap.lt_size (N _ hm).1
  refine wpAny_pyIter_list ht ?_
  have up : ∀ b o, s.heap.get? b = some o → (s.heap.push { cls := .type "list_iterator", data := .fields #[.ref ax, .int 0 0] }).get? b = some o := fun b o e => Heap.get?_push_of_some _ e
  refine ⟨s.heap.objs.size, _, its.size, _, _, fun nw => (ax, listOf its k) ∈ nw, news, rfl, Walks.list hh s.heap.objs.size ax (Nat.ne_of_lt hlt) its, hsz, fun i h st => by obtain ⟨o, e, _⟩ := st.1; exact ⟨o, e⟩,
    fun i h h' o nw st e e' _ N' S => ⟨by obtain ⟨o', q, r⟩ := st.1; rw [e] at q; cases q; exact ⟨o, e', r⟩, ⟨_, (N' _ S).1, rfl, k, rfl⟩⟩, ⟨⟨_, Heap.get?_push_size _ rfl, rfl, rfl⟩, ht.push _⟩, fun b hb => ?_,
    F.keeps up, N.grown up, Nat.ne_of_lt F.ns.lt, next_is_new F, fun p hp => Nat.ne_of_lt (Heap.lt_size (N p hp).1), hm, h _⟩
  show b < (s.heap.push _).objs.size
  rw [Heap.size_push]
  rcases List.mem_cons.mp hb with rfl | hb
  · exact Nat.lt_succ_self _
  · rw [List.mem_singleton.mp hb]; exact Nat.lt_succ_of_lt hlt
end
end Mine
end
section
-- Bd
open PySem PySem.W PyProof.Rows
set_option maxRecDepth 100000
set_option maxHeartbeats 4000000
namespace Mine
/-- as Ctr, but the draws may have gone on -/
abbrev CtrD (w : World) (f : Addr) (nd nu : Nat) (news : List (Addr × Obj)) (vs : List Value) (R : (Value → List (Addr × Obj) → Prop) → Prop) : Prop :=
  ∀ (mean : ExcName → Option Value) (mg mb : Str → Option Value) (dp un : Nat) (gd : Option (List Code)) (cn : Str) (cs : Scope) (a : Addr) (ccd : Value) (cl : List (Str × Addr)) (outer : List Env) (A₀ : Around) (base h₀ : Heap) (L : Addr) (m : Str → Option Value) (s : Shared) (Q E : Value → Shared → Prop),
    Below A₀ base outer h₀ → Fr h₀ L s.heap m → (Kf w.params).In h₀ → News h₀ L s.heap news → Top Qv Loo mean mg mb h₀ → cs.kind = .function →
    dp + nd < recursionLimit → un + nu < cLine →
    R (fun v news' => ∀ (h' : Heap) (tk' : Nat) (dr' : Drawn), Fr h₀ L h' m → News h₀ L h' news' → Q v { s with heap := h', toks := tk', drawn := dr' }) →
      wpAny (model pw w) (ktrTop dp un gd cn cs L a ccd cl outer) (call (.ref f) vs) Q E s
def risingL : List Nat → Bool
  | [] => true
  | [_] => true
  | a :: b :: r => decide (a < b) && risingL (b :: r)
/-- lower is shorter and greater at each place -/
def underL (lower row : List Nat) : Bool := decide (lower.length ≤ row.length) && (List.range lower.length).all fun i => decide (row.getD i 0 < lower.getD i 0)
def risesB : List (List Nat) → Bool
  | [] => true
  | r :: rs => !r.isEmpty && risingL r && underL (rs.headD []) r && risesB rs
theorem risingL_pw : ∀ r : List Nat, risingL r = true → r.Pairwise (· < ·)
  | [], _ => List.Pairwise.nil
  | [a], _ => List.pairwise_singleton _ _
  | a :: b :: r, h => by
    have h' : (decide (a < b) && risingL (b :: r)) = true := h
    rw [Bool.and_eq_true] at h'
    have ih := risingL_pw (b :: r) h'.2
    have hab := of_decide_eq_true h'.1
    refine List.pairwise_cons.mpr ⟨fun z hz => ?_, ih⟩
    rcases List.mem_cons.mp hz with rfl | hz
    · exact hab
    · exact Nat.lt_trans hab ((List.pairwise_cons.mp ih).1 z hz)
theorem rises_at : ∀ {rs : List (List Nat)} (_ : risesB rs = true) {i : Nat} {r : List Nat} (_ : rs[i]? = some r), r ≠ [] ∧ r.Pairwise (· < ·) ∧ underL (rs.getD (i + 1) []) r = true
  | [], _, i, r, hi => by simp at hi
  | r' :: rs, h, 0, r, hi => by
    have e : r' = r := by simpa using hi
    subst e
    unfold risesB at h
    simp only [Bool.and_eq_true] at h
    refine ⟨fun e => by rw [e] at h; simp at h, risingL_pw _ h.1.1.2, ?_⟩
    have := h.1.2
    cases rs with
    | nil => exact this
    | cons a l => exact this
  | r' :: rs, h, i + 1, r, hi => by
    unfold risesB at h
    simp only [Bool.and_eq_true] at h
    exact rises_at h.2 (i := i) (by simpa using hi)
theorem pw_nodup {r : List Nat} (h : r.Pairwise (· < ·)) : r.Nodup := h.imp fun h => Nat.ne_of_lt h
end Mine
end
section
-- C6
open PySem PySem.W PyProof.Rows PySem.Spec PySem.Calls PyProof.Rows.LCg PyProof.Rows.LCt
set_option maxRecDepth 100000
set_option maxHeartbeats 4000000
namespace Mine

theorem fr_one {h₀ h : Heap} {L : Addr} {m₁ m : Str → Option Value} {x : Str} (F : Fr h₀ L h m₁) (e : ∀ z, z ≠ x → m₁ z = m z) : Fr h₀ L h (fun y => if y = x then m₁ y else m y) := by
  have : (fun y => if y = x then m₁ y else m y) = m₁ := by
    funext y
    by_cases h : y = x
    · rw [if_pos h]
    · rw [if_neg h, e y h]
  rw [this]; exact F
theorem cells_off {LC d : Addr} {o : Obj} {news : List (Addr × Obj)} (o2 : Obj) (h : ∀ p ∈ (d, o) :: news, p.1 < LC) : ∀ p ∈ (LC + 1, o2) :: (d, o) :: news, p.1 ≠ LC + 1 + 1 := fun p hp => by
  rcases List.mem_cons.mp hp with rfl | hp
  · exact Nat.ne_of_lt (Nat.lt_succ_self _)
  · exact Nat.ne_of_lt (Nat.lt_succ_of_lt (Nat.lt_succ_of_lt (h p hp)))
theorem cells_off2 {LC d : Addr} {o : Obj} {news : List (Addr × Obj)} (h : ∀ p ∈ (d, o) :: news, p.1 < LC) : ∀ p ∈ (d, o) :: news, p.1 ≠ LC + 1 := fun p hp => Nat.ne_of_lt (Nat.lt_succ_of_lt (h p hp))
theorem rt_low {rt : RT} {l : List Nat} (e : rt.map (·.1) = l.map (fun c => [c])) (h : ∀ c ∈ l, c < 128) : ∀ p ∈ rt, ∀ c ∈ p.1, c < 128 := fun p hp c hc => by
  have h1 : p.1 ∈ rt.map (·.1) := List.mem_map.mpr ⟨p, hp, rfl⟩
  rw [e] at h1
  obtain ⟨c', hc', e'⟩ := List.mem_map.mp h1
  rw [← e'] at hc
  rw [List.mem_singleton.mp hc]; exact h c' hc'
theorem ne_signs {prog : Program} {w : World} {A : Around} {E : Value → Shared → Prop} {s : Shared} {h₀ : Heap} {L a b : Addr} {news : List (Addr × Obj)} {r1 r2 : RT} {n1 n2 : Nat} {l : List Nat} {Q : Value → Shared → Prop} (N : News h₀ L s.heap news) (ha : (a, rowsO r1 n1) ∈ news) (hb : (b, rowsO r2 n2) ∈ news) (e1 : r1.map (·.1) = l.map (fun c => [c])) (e2 : r2.map (·.1) = l.map (fun c => [c])) (hl : ∀ c ∈ l, c < 128) (hu : A.units + 64 < cLine) (h : Q (.bool false) s) :
    wpAny (model prog w) A (compareOp .NotEq (.ref a) (.ref b)) Q E s :=
  ne_rows (rl_isList N ha) (rl_isList N hb) (rt_low e1 hl) (rt_low e2 hl) hu (by rw [e1, e2, decide_eq_true rfl]; exact h)
local macro_rules | `(tactic| walk_at "compareOp NotEq ref ref") => `(tactic| (k_here; k_dflt (refine' ne_signs ?N ?a ?b ?e1 ?e2 ?hl ?hu ?_; (case N => k_asm); (case a => k_mem); (case b => k_mem); (case e1 => assumption); (case e2 => assumption); (case hl => assumption); (case hu => first | units_room | ktr_units | omega))))
local macro_rules | `(tactic| walk_at "eval ListComp") => `(tactic| (k_here; k_dflt (refine ListComp_WT (by k_asm) (by rfl) (by decide) (by rfl) (by decide) (by rfl) ?_)))
theorem row_no {r : List Nat} (h : (S r == Str.ofString "") = true) (hn : r ≠ []) : False := by
  rw [S_empty] at h
  exact hn (List.length_eq_zero_iff.mp (of_decide_eq_true h))
theorem under_no {x y : List Nat} (h : underL x y = true) (hl : ((S y).length : Int) < ((S x).length : Int)) : False := by
  unfold underL at h
  rw [Bool.and_eq_true] at h
  have h1 := of_decide_eq_true h.1
  rw [S_length, S_length] at hl
  omega
theorem under_item {x y : List Nat} {i : Nat} (h : underL x y = true) (hi : i < (((S x).length : Int) - 0).toNat) : (!decide ((Txt.item (S y) (0 + (i : Int))).cps.toList < (Txt.item (S x) (0 + (i : Int))).cps.toList)) = false := by
  unfold underL at h
  rw [Bool.and_eq_true] at h
  have h1 := of_decide_eq_true h.1
  rw [S_length] at hi
  have hi2 : i < x.length := by omega
  have h2 := of_decide_eq_true (List.all_eq_true.mp h.2 i (List.mem_range.mpr hi2))
  rw [item_S y _ (by omega) (by omega), item_S x _ (by omega) (by omega), show (0 + (i : Int)).toNat = i by omega]
  have h3 : decide ([y.getD i 0] < [x.getD i 0]) = true := decide_eq_true (List.cons_lt_cons_iff.mpr (Or.inl h2))
  show (!decide ([y.getD i 0] < [x.getD i 0])) = false
  rw [h3]; rfl
theorem no_iC {i : Nat} (h : i < (((Str.ofString "").length : Int) - 0).toNat) : False := by
  have h0 : (Str.ofString "").length = 0 := rfl
  rw [h0] at h
  simp at h
theorem its_apart {eI iI c1 c2 d : Addr} {oE oI o1 o2 o3 o4 o5 : Obj} {news : List (Addr × Obj)} (a1 : eI ≠ c1) (a2 : iI ≠ c1) (b1 : eI ≠ c2) (b2 : iI ≠ c2) (hap : ∀ p ∈ (c1, o1) :: (c2, o2) :: (d, o5) :: news, ∀ q ∈ [(eI, oE), (iI, oI)], p.1 ≠ q.1) :
    ∀ p ∈ (c1, o3) :: (c2, o4) :: (d, o5) :: news, ∀ q ∈ [(eI, oE), (iI, oI)], p.1 ≠ q.1 := fun p hp q hq => by
  rcases List.mem_cons.mp hp with rfl | hp
  · simp only [List.mem_cons, List.not_mem_nil, or_false] at hq
    rcases hq with rfl | rfl
    · exact Ne.symm a1
    · exact Ne.symm a2
  · rcases List.mem_cons.mp hp with rfl | hp
    · simp only [List.mem_cons, List.not_mem_nil, or_false] at hq
      rcases hq with rfl | rfl
      · exact Ne.symm b1
      · exact Ne.symm b2
    · exact hap p (.tail _ (.tail _ hp)) q hq
theorem tv_get' {rt : RT} {i : Nat} {x : Value} (h : (tv rt)[i]? = some x) : ∃ r t, x = .str (S r) t ∧ rt[i]? = some (r, t) := by
  unfold tv at h
  rw [List.getElem?_map] at h
  cases e : rt[i]? with
  | none => rw [e] at h; cases h
  | some p => rw [e] at h; cases h; exact ⟨p.1, p.2, rfl, rfl⟩
theorem rises_ok (w : World) (news : List (Addr × Obj)) (d : Addr) (n : Nat) (rt : RT) (hd : ∀ p ∈ news, p.1 ≠ d) (hz : rt.length ≤ 5) (hb : ∀ p ∈ rt, p.1.length ≤ 5) (hlow : ∀ p ∈ rt, ∀ c ∈ p.1, c < 128) (hr : risesB (rt.map (·.1)) = true) : CtrD w 365 20 300 ((d, rowsO rt n) :: news) [.ref d] (fun K => K (.bool true) ((d, rowsO rt n) :: news)) := by
  intro mean mg mb dp un gd cn cs a ccd cl outer A₀ base h₀ L m s Q E B F X N T hk hdp hu hret
  k_with_none
  (k_with "storeName" => first
    | (refine' storeX_C (c := LC + 1 + 1) (news := (eI, oE) :: (iI, oI) :: (LC + 1 + 1, o1) :: (LC + 1, o9') :: (d, rowsO rt n) :: news) ?F ?N ?c (.tail a1 (.tail a2 (.head (a3 _)))) ?d ?_ ?a ?b; (case a => rfl); (case b => rfl); (case c => rfl); (case F => k_asm); (case N => refine cb_drop (by assumption) (fun p hp => ?_); exact .tail _ (.tail _ (.tail _ hp))); (case d => k_asm); intro h9' o8' F9' N9' d8'; (try dsimp only at N9'))
    | (refine' storeX_C (c := LC + 1) (news := (eI, oE) :: (iI, oI) :: (LC + 1 + 1, o1) :: (LC + 1, o2) :: (d, rowsO rt n) :: news) ?F ?N ?c (.tail b1 (.tail b2 (.tail (Nat.succ_ne_self _) (.head b3)))) ?d ?_ ?a ?b; (case a => rfl); (case b => rfl); (case c => rfl); (case F => k_asm); (case N => k_asm); (case d => k_asm); intro h9' o9' F9' N9' d9'; (try dsimp only at N9')))
  (k_with "call type:list" => (k_dflt (refine list_signs (by rfl) (by k_asm) (by k_asm) (by omega) ?_); intro D7 h7 tk7 rt7 e7 F7 N7 hrt7))
  (k_with "call type:set cons nil" => (refine set_signs (by rfl) (by k_asm) (by k_asm) (by assumption) (by omega) ?_; intro D8 h8 tk8 o8 F8 N8 hO8))
  (k_with "call builtin:sorted" => (refine sorted_signs (by k_asm) (by k_asm) (by k_mem) (by rfl) hO8 (by assumption) (by omega) (by assumption) ?_; intro h10 tk10 dr10 D10 rt10 e10 F10 N10 hrt10))
  (k_with "exec For Tuple Call cons nil" => ((rename Fr _ _ _ _ => lF'); (with_unfolding_all refine' For_D lF' ?_); k_whole))
  (k_with "call type:enumerate" => (
    (rename Fr _ _ _ _ => lF'); (rename News _ _ _ _ => lN')
    (with_unfolding_all refine' enumL_D (vs := tv rt) (n := n) (by rfl) lF' lN' ?hm (fun i m₁ news₁ => (∃ o1 o2 v1 v2, news₁ = (LC + 1 + 1, o1) :: (LC + 1, o2) :: (d, rowsO rt n) :: news ∧ o1.data = .cell v1 ∧ o2.data = .cell v2) ∧ ∀ z, z ≠ Str.ofString "which" → m₁ z = if z = Str.ofString "rows" then some (.ref d) else none) ?h0 ?_ ?_)
    (case hm => exact .tail _ (.tail _ (.head _)))
    (case h0 => exact ⟨⟨_, _, _, _, rfl, by assumption, by assumption⟩, fun _ _ => rfl⟩)
    (all_goals (try clear lF' lN'))
    (all_goals first
      | (rintro eI iI iN xI TI tI hI kI drI mI nI hiN hxI hTI ⟨⟨o1, o2, v1, v2, rfl, hd1, hd2⟩, hmI⟩ hmem FI oE hcE oI hcI NI hap; (obtain ⟨rI, tR, rfl, hrI⟩ := tv_get' hxI); (replace FI := fr_one FI hmI); (try simp only [List.cons_append, List.nil_append] at NI); (try dsimp only at hcE hcI); (have hXo := hb _ (List.mem_of_getElem? hrI)); dsimp only at hXo; (have hSl := S_length rI); (have hAt := rises_at hr (i := iN) (r := rI) (by rw [List.getElem?_map, hrI]; rfl)); (have hNe := hAt.1); (have hPw := hAt.2.1); (have hUn := hAt.2.2); (have hNd := pw_nodup hPw); (have hLI := hlow _ (List.mem_of_getElem? hrI)); (have a1 : eI ≠ LC + 1 + 1 := Ne.symm (hap _ (.head _) _ (.head _))); (have a2 : iI ≠ LC + 1 + 1 := Ne.symm (hap _ (.head _) _ (.tail _ (.head _)))); (have b1 : eI ≠ LC + 1 := Ne.symm (hap _ (.tail _ (.head _)) _ (.head _))); (have b2 : iI ≠ LC + 1 := Ne.symm (hap _ (.tail _ (.head _)) _ (.tail _ (.head _)))); (have a3 := fun o => cells_off o lC0); (have b3 := cells_off2 lC0))
      | (rintro mI nI hI kI drI ⟨⟨o1, o2, v1, v2, rfl, hd1, hd2⟩, hmI⟩ FI NI; (replace FI := fr_one FI hmI)))
    (all_goals (try k_fold))))
  (k_with "call builtin:len" => (refine rl_len (by k_asm) (by k_mem) (by omega) ?_))
  (k_with "subscriptTail Name BinOp ref int" => (refine rl_item (by k_asm) (by k_mem) (by omega) (by omega) (by omega) ?_; intro rL tL hL; (have hLo := hb _ (List.mem_of_getElem? hL)); dsimp only at hLo; (have hSl2 := S_length rL); (have hG := map_getD hL); (rw [show ((iN : Int) + 1).toNat = iN + 1 by omega] at hG); (rw [hG] at hUn)))
  (k_with "pyIter ref" => (
    ((with_reducible show wpAny _ _ (pyIter (Value.ref _)) (SrcW _ _ _ _ _ _ _) _ _); k_here)
    (rename IsRange _ _ _ _ _ _ _ _ => rgX)
    (k_dflt (refine src_range (by rfl) (by k_asm) (by k_asm) rgX (by exact small_one (by omega) (by omega) (by omega) (by omega)) (by exact rangeSize_nat _ _) (by rw [sizeLine_eq]; omega) ?_))
    (intro g'; (try dsimp only); refine compT_none ?_ ?_)
    (all_goals first
      | (rintro iC hiC vC IC oIC CC oCC DC mC hC' tC EC ⟨tC2, rfl⟩ hNC hmC FC' NC' offC neC; (try k_fold))
      | (intro D11 h11 tk11 F11 N11 o11; (try k_fold)))))
  refine wpAny_call ?_
  k_dflt (refine' code_defC ?k1 ?k2 ?k3 ?k4 ?k5 ?kA ?kF ?kK ?k6 ?k7 ?k8 ?k9 ?kB ?kD ?_ ?c2 ?c3 ?c4; (case kA => exact rfl); (case kF => exact rfl); (case kK => assumption); (case k1 => k_asm); (case k2 => k_asm); (case k3 => k_asm); (case k4 => k_asm); (case k5 => k_asm); (case k6 => k_is); (case k7 => k_is); (case k8 => ktr_room); (case k9 => exact BindsTo.of_eq rfl); (case kB => exact rfl); (case kD => decide +kernel); (case c2 => exact rfl); (case c3 => exact rfl); (case c4 => exact rfl); k_whole)
  (intro gC LC hC tkC cellsC FGC FC NC YC BC XC TC lC; (have lC0 := lC); (try k_lt lC); k_cells YC; (try simp only [List.cons_append, List.nil_append] at NC); (try dsimp only); (try k_lift BC); (have FC2 : Fr gC LC hC (fun y => if y = Str.ofString "rows" then some (.ref d) else none) := by with_unfolding_all exact FC); clear FC; (try k_fold))
  k_steps
  · (exfalso; exact row_no (by assumption) hNe)
  · (exfalso; exact under_no hUn (by assumption))
  · exact under_item hUn hiC
  · exact LCg.CompEnd.intro (by assumption) NC' _ (fun p hp => hp) offC trivial rfl
  · refine ⟨_, _, _, _, (LC + 1 + 1, o8') :: (LC + 1, o9') :: (d, rowsO rt n) :: news, rfl, (by assumption), cb_drop (by assumption) ?hd9, ?ha9, ?hk9, ⟨o8', o9', _, _, rfl, d8', d9'⟩, ?hm9⟩
    (case hd9 => intro p hp; first | exact hp | exact .tail _ hp | exact .tail _ (.tail _ hp) | exact .tail _ (.tail _ (.tail _ hp)) | exact .tail _ (.tail _ (.tail _ (.tail _ hp))) | exact .tail _ (.tail _ (.tail _ (.tail _ (.tail _ hp)))) | exact .tail _ (.tail _ (.tail _ (.tail _ (.tail _ (.tail _ hp))))))
    (case ha9 => exact its_apart a1 a2 b1 b2 hap)
    (case hk9 => intro p hp; rw [List.mem_singleton.mp hp]; exact .tail _ (.tail _ (.head _)))
    (case hm9 => intro z hz; simp only [if_neg hz])
  · (exfalso; exact no_iC hiC)
  · (exfalso; exact no_iC hiC)
  · refine ⟨_, _, _, _, (LC + 1 + 1, o8') :: (LC + 1, o9') :: (d, rowsO rt n) :: news, rfl, (by assumption), cb_drop (by assumption) ?hd9, ?ha9, ?hk9, ⟨o8', o9', _, _, rfl, d8', d9'⟩, ?hm9⟩
    (case hd9 => intro p hp; first | exact hp | exact .tail _ hp | exact .tail _ (.tail _ hp) | exact .tail _ (.tail _ (.tail _ hp)) | exact .tail _ (.tail _ (.tail _ (.tail _ hp))) | exact .tail _ (.tail _ (.tail _ (.tail _ (.tail _ hp)))) | exact .tail _ (.tail _ (.tail _ (.tail _ (.tail _ (.tail _ hp))))))
    (case ha9 => exact its_apart a1 a2 b1 b2 hap)
    (case hk9 => intro p hp; rw [List.mem_singleton.mp hp]; exact .tail _ (.tail _ (.head _)))
    (case hm9 => intro z hz; simp only [if_neg hz])
  · refine' hret _ _ _ ?zf ?zn
    (case zf => k_asm)
    (case zn => exact cb_drop (by assumption) (fun p hp => .tail _ (.tail _ hp)))

end Mine
end
section
-- P7
open PySem PySem.W PyProof.Rows
set_option maxRecDepth 100000
set_option maxHeartbeats 4000000
namespace Mine
def sizeOk (rs : List (List Nat)) : Bool := decide (rs.length ≤ 5) && rs.all fun r => decide (r.length ≤ 5) && r.all fun c => decide (c < 128)
/-- one sign goes in: the rows, and the row that grew noted with its step -/
def rowsT (rows : List (List Nat)) (c : Nat) : List (List Nat) := (putIn rows [c]).1
def whichT (rows : List (List Nat)) (c : Nat) : Nat := (putIn rows [c]).2
def toldP (told : List (List Nat)) (k : Nat) : List (List Nat) := if k = told.length then told ++ [[]] else told
def toldT (told : List (List Nat)) (k at_ : Nat) : List (List Nat) := (toldP told k).set k ((toldP told k).getD k [] ++ [65 + at_])
def tabs : List Nat → Nat → List (List Nat) → List (List Nat) → List (List Nat) × List (List Nat)
  | [], _, rows, told => (rows, told)
  | c :: r, i, rows, told => tabs r (i + 1) (rowsT rows c) (toldT told (whichT rows c) i)
def tabsOk : List Nat → Nat → List (List Nat) → List (List Nat) → Bool
  | [], _, rows, told => sizeOk rows && sizeOk told
  | c :: r, i, rows, told => sizeOk rows && sizeOk told && decide (i < 5) && decide (c < 128) && decide (whichT rows c ≤ told.length) && risesB (rowsT rows c) && risesB (toldT told (whichT rows c) i) && decide ((rowsT rows c).map List.length = (toldT told (whichT rows c) i).map List.length) &&
      sizeOk (rowsT rows c) && sizeOk (toldT told (whichT rows c) i) && sizeOk (toldP told (whichT rows c)) && tabsOk r (i + 1) (rowsT rows c) (toldT told (whichT rows c) i)
theorem sizeOk_len {rt : RT} (h : sizeOk (rt.map (·.1)) = true) : rt.length ≤ 5 := by
  unfold sizeOk at h
  rw [Bool.and_eq_true] at h
  have := of_decide_eq_true h.1
  simpa using this
theorem sizeOk_row {rt : RT} (h : sizeOk (rt.map (·.1)) = true) : ∀ p ∈ rt, p.1.length ≤ 5 := fun p hp => by
  unfold sizeOk at h
  rw [Bool.and_eq_true] at h
  have := List.all_eq_true.mp h.2 p.1 (List.mem_map.mpr ⟨p, hp, rfl⟩)
  rw [Bool.and_eq_true] at this
  exact of_decide_eq_true this.1
theorem sizeOk_low {rt : RT} (h : sizeOk (rt.map (·.1)) = true) : ∀ p ∈ rt, ∀ c ∈ p.1, c < 128 := fun p hp c hc => by
  unfold sizeOk at h
  rw [Bool.and_eq_true] at h
  have := List.all_eq_true.mp h.2 p.1 (List.mem_map.mpr ⟨p, hp, rfl⟩)
  rw [Bool.and_eq_true] at this
  exact of_decide_eq_true (List.all_eq_true.mp this.2 c hc)
structure TabInv (l : List Nat) (i : Nat) (rt tt : RT) : Prop where
  eq : tabs l 0 [] [] = tabs (l.drop i) i (rt.map (·.1)) (tt.map (·.1))
  ok : tabsOk (l.drop i) i (rt.map (·.1)) (tt.map (·.1)) = true
/-- what a turn may lean on -/
structure TabGo (l : List Nat) (i c : Nat) (rt tt : RT) : Prop where
  rs : sizeOk (rt.map (·.1)) = true
  ts : sizeOk (tt.map (·.1)) = true
  i5 : i < 5
  c128 : c < 128
  wh : whichT (rt.map (·.1)) c ≤ tt.length
  r1 : risesB (rowsT (rt.map (·.1)) c) = true
  r2 : risesB (toldT (tt.map (·.1)) (whichT (rt.map (·.1)) c) i) = true
  le : (rowsT (rt.map (·.1)) c).map List.length = (toldT (tt.map (·.1)) (whichT (rt.map (·.1)) c) i).map List.length
  rs2 : sizeOk (rowsT (rt.map (·.1)) c) = true
  ts2 : sizeOk (toldT (tt.map (·.1)) (whichT (rt.map (·.1)) c) i) = true
  tp : sizeOk (toldP (tt.map (·.1)) (whichT (rt.map (·.1)) c)) = true
theorem drop_at {l : List Nat} {i c : Nat} (hc : l[i]? = some c) : l.drop i = c :: l.drop (i + 1) := by
  have hi : i < l.length := by
    rcases Nat.lt_or_ge i l.length with q | q
    · exact q
    · rw [List.getElem?_eq_none q] at hc; cases hc
  rw [List.drop_eq_getElem_cons hi]
  rw [List.getElem?_eq_getElem hi] at hc
  rw [Option.some.inj hc]
theorem TabInv.go {l : List Nat} {i c : Nat} {rt tt : RT} (h : TabInv l i rt tt) (hc : l[i]? = some c) : TabGo l i c rt tt := by
  have g := h.ok
  rw [drop_at hc] at g
  unfold tabsOk at g
  simp only [Bool.and_eq_true, decide_eq_true_eq] at g
  obtain ⟨⟨⟨⟨⟨⟨⟨⟨⟨⟨⟨a, b⟩, c1⟩, d⟩, e⟩, f⟩, g1⟩, k⟩, m⟩, n⟩, o⟩, _⟩ := g
  exact ⟨a, b, c1, d, by simpa using e, f, g1, k, m, n, o⟩
theorem TabInv.next {l : List Nat} {i c : Nat} {rt tt rt' tt' : RT} (h : TabInv l i rt tt) (hc : l[i]? = some c) (e1 : rt'.map (·.1) = rowsT (rt.map (·.1)) c) (e2 : tt'.map (·.1) = toldT (tt.map (·.1)) (whichT (rt.map (·.1)) c) i) : TabInv l (i + 1) rt' tt' := by
  have g := h.ok
  have q := h.eq
  rw [drop_at hc] at g q
  refine ⟨?_, ?_⟩
  · rw [e1, e2, q]; rfl
  · unfold tabsOk at g
    rw [e1, e2]
    exact (Bool.and_eq_true_iff.mp g).2
theorem TabInv.done {l : List Nat} {n : Nat} {rt tt : RT} (h : TabInv l n rt tt) (hn : n = l.length) : rt.map (·.1) = (tabs l 0 [] []).1 ∧ tt.map (·.1) = (tabs l 0 [] []).2 := by
  have q := h.eq
  rw [hn, List.drop_length] at q
  rw [q]
  exact ⟨rfl, rfl⟩
theorem TabInv.start {l : List Nat} (h : tabsOk l 0 [] [] = true) : TabInv l 0 [] [] := ⟨rfl, h⟩
end Mine
end
section
-- Lc
open PySem PySem.W PyProof.Rows PySem.Spec PySem.Calls PyProof.Rows.LCg PyProof.Rows.LCt
set_option maxRecDepth 100000
set_option maxHeartbeats 4000000
namespace Mine
def lens (rs : List (List Nat)) : List Int := rs.map fun r => (r.length : Int)
theorem ints_snoc {vs : List Value} {ns : List Int} (h : IntsAre vs ns) (n : Int) (t : Tok) : IntsAre (vs ++ [.int n t]) (ns ++ [n]) := by
  induction h with
  | nil => exact .cons n t .nil
  | cons k u _ ih => exact .cons k u ih
theorem take_lens {rt : RT} {i : Nat} {r : List Nat} {t : Tok} (h : rt[i]? = some (r, t)) : lens ((rt.map (·.1)).take (i + 1)) = lens ((rt.map (·.1)).take i) ++ [(r.length : Int)] := by
  unfold lens
  rw [List.take_add_one, List.map_append, List.getElem?_map, h]
  rfl
theorem tvA_get {rt : RT} {i : Nat} {x : Value} (h : (tv rt).toArray[i]? = some x) : ∃ r t, x = .str (S r) t ∧ rt[i]? = some (r, t) := by
  unfold tv at h
  rw [List.getElem?_toArray, List.getElem?_map] at h
  cases e : rt[i]? with
  | none => rw [e] at h; cases h
  | some p => rw [e] at h; cases h; exact ⟨p.1, p.2, rfl, rfl⟩
section
variable {prog : Program} {w : World} {A : Around} {E : Value → Shared → Prop} {s : Shared} {h₀ : Heap} {L : Addr} {m : Str → Option Value} {env : Env}
/-- lengths of the rows -/
theorem comp_lens {elt : PySem.Expr} {x : Str} {scope : Scope} {cl : List (Str × Addr)} {T : List (Addr × Obj) → Prop} {Fin : List Value → List (Addr × Obj) → Prop} {rt : RT} {news : List (Addr × Obj)}
    (turn : ∀ (i : Nat) (r : List Nat) (t : Tok) (ys : List Value), rt[i]? = some (r, t) → ∀ I oI C oC D m₂ h tk (E' : Value → Shared → Prop), NsObj oC m₂ → m₂ x = some (.str (S r) t) → Fr h₀ L h m → News h₀ L h ((I, oI) :: (C, oC) :: (D, lst ys) :: news) → Off3 I C D news → ((@Ne Nat I C) ∧ (@Ne Nat I D) ∧ (@Ne Nat C D)) →
      wpAny (model prog w) A (eval elt (compEnvC scope cl C env)) (LCg.CompEnd h₀ L m { s with heap := h, toks := tk } I oI C oC D (lst ys) T (fun y nw => nw = news ∧ ∃ u, y = .int (r.length : Int) u)) E' { s with heap := h, toks := tk })
    (fin : ∀ ys, IntsAre ys (lens (rt.map (·.1))) → Fin ys news) : LCg.CompRest prog w A h₀ L m env elt x scope cl s T (fun i v => (tv rt).toArray[i]? = some v) Fin (tv rt).toArray.size 0 [] news := by
  refine compU_ind (n := (tv rt).toArray.size) (fun i ys nw => nw = news ∧ IntsAre ys (lens ((rt.map (·.1)).take i))) (fun i ys nw hi hI v I oI C oC D m₂ h tk E' hv a b c d e f => ?_) (fun ys nw hI => ?_) _ 0 [] news (by omega) ⟨rfl, .nil⟩
  · obtain ⟨rfl, hI⟩ := hI
    obtain ⟨r, t, rfl, hr⟩ := tvA_get hv
    refine wpAny_mono (turn i r t ys hr I oI C oC D m₂ h tk E' a b c d e f) (fun y s' q => CompEnd.mono q fun n' hn => ?_) fun _ _ z => z
    obtain ⟨rfl, u, rfl⟩ := hn
    exact ⟨rfl, by rw [take_lens hr]; exact ints_snoc hI _ _⟩
  · obtain ⟨rfl, hI⟩ := hI
    rw [List.take_of_length_le (by simp [tv_length])] at hI
    exact fin ys hI
theorem take_lensT {rt : RT} {i : Nat} {r : List Nat} {t : Tok} (h : rt[i]? = some (r, t)) : lens (((rt.map (·.1)).take (i + 1)).filter (· ≠ [])) = lens (((rt.map (·.1)).take i).filter (· ≠ [])) ++ (if r = [] then [] else [(r.length : Int)]) := by
  unfold lens
  rw [List.take_add_one, List.getElem?_map, h, List.filter_append, List.map_append]
  by_cases e : r = [] <;> simp [e]
/-- lengths of the rows that are not empty -/
theorem comp_lensT {ct elt : PySem.Expr} {x : Str} {scope : Scope} {cl : List (Str × Addr)} {T : List (Addr × Obj) → Prop} {Fin : List Value → List (Addr × Obj) → Prop} {rt : RT} {news : List (Addr × Obj)}
    (turn : ∀ (i : Nat) (r : List Nat) (t : Tok) (ys : List Value), rt[i]? = some (r, t) → ∀ I oI C oC D m₂ h tk (E' : Value → Shared → Prop), NsObj oC m₂ → m₂ x = some (.str (S r) t) → Fr h₀ L h m → News h₀ L h ((I, oI) :: (C, oC) :: (D, lst ys) :: news) → Off3 I C D news → ((@Ne Nat I C) ∧ (@Ne Nat I D) ∧ (@Ne Nat C D)) →
      wpAny (model prog w) A (isTrue ct (compEnvC scope cl C env) (eval ct (compEnvC scope cl C env))) (fun ok s' => ok = decide (r ≠ []) ∧ if ok = true then
        wpAny (model prog w) A (eval elt (compEnvC scope cl C env)) (LCg.CompEnd h₀ L m { s with heap := h, toks := tk } I oI C oC D (lst ys) T (fun y nw => nw = news ∧ ∃ u, y = .int (r.length : Int) u)) E' s'
        else LCg.CompEnd h₀ L m { s with heap := h, toks := tk } I oI C oC D (lst ys) T (fun _ nw => nw = news) Value.none s') E' { s with heap := h, toks := tk })
    (fin : ∀ ys, IntsAre ys (lens ((rt.map (·.1)).filter (· ≠ []))) → Fin ys news) : CompRestT prog w A h₀ L m env ct elt x scope cl s T (fun i v => (tv rt).toArray[i]? = some v) Fin (tv rt).toArray.size 0 [] news := by
  refine compT_ind (n := (tv rt).toArray.size) (fun i ys nw => nw = news ∧ IntsAre ys (lens (((rt.map (·.1)).take i).filter (· ≠ [])))) (fun i ys nw hi hI v I oI C oC D m₂ h tk E' hv a b c d e f => ?_) (fun ys nw hI => ?_) _ 0 [] news (by omega) ⟨rfl, .nil⟩
  · obtain ⟨rfl, hI⟩ := hI
    obtain ⟨r, t, rfl, hr⟩ := tvA_get hv
    refine wpAny_mono (turn i r t ys hr I oI C oC D m₂ h tk E' a b c d e f) (fun ok s' q => ?_) fun _ _ z => z
    obtain ⟨rfl, q⟩ := q
    by_cases er : r = []
    · rw [decide_eq_false (by simp [er])] at q ⊢
      simp only [Bool.false_eq_true, if_false] at q ⊢
      exact CompEnd.mono q fun n' hn => ⟨hn, by rw [take_lensT hr, if_pos er, List.append_nil]; exact hI⟩
    · rw [decide_eq_true (by exact er)] at q ⊢
      simp only [if_true] at q ⊢
      refine wpAny_mono q (fun y s'' z => CompEnd.mono z fun n' hn => ?_) fun _ _ z => z
      obtain ⟨rfl, u, rfl⟩ := hn
      exact ⟨rfl, by rw [take_lensT hr, if_neg er]; exact ints_snoc hI _ _⟩
  · obtain ⟨rfl, hI⟩ := hI
    rw [List.take_of_length_le (by simp [tv_length])] at hI
    exact fin ys hI
end
theorem lst_list {h₀ h : Heap} {L D : Addr} {ys : List Value} {led : List (Addr × Obj)} (N : News h₀ L h led) (hm : (D, lst ys) ∈ led) : h.IsList D ys.toArray := ⟨_, (N _ hm).1, rfl, _, rfl⟩
theorem ne_lst {prog : Program} {w : World} {A : Around} {E : Value → Shared → Prop} {s : Shared} {h₀ : Heap} {L a b : Addr} {led : List (Addr × Obj)} {vs us : List Value} {ns ms : List Int} {Q : Value → Shared → Prop} (N : News h₀ L s.heap led) (ha : (a, lst vs) ∈ led) (hb : (b, lst us) ∈ led) (hi : IntsAre vs ns) (hj : IntsAre us ms) (e : ns = ms) (hu : A.units + 64 < cLine) (h : Q (.bool false) s) :
    wpAny (model prog w) A (compareOp .NotEq (.ref a) (.ref b)) Q E s :=
  ne_intsK (lst_list N ha) hi (lst_list N hb) hj hu (by rw [decide_eq_true e]; exact h)
end Mine
end
section
-- C7
open PySem PySem.W PyProof.Rows PySem.Spec PySem.Calls PyProof.Rows.LCg PyProof.Rows.LCt
set_option maxRecDepth 100000
set_option maxHeartbeats 4000000
namespace Mine

local macro_rules | `(tactic| walk_at "call ref") => `(tactic| k_extra "call ref")
local macro_rules | `(tactic| walk_at "call type:enumerate") => `(tactic| k_extra "call type:enumerate")
local macro_rules | `(tactic| walk_at "setItem ref int") => `(tactic| k_extra "setItem ref int")
local macro_rules | `(tactic| walk_at "compareOp NotEq ref ref") => `(tactic| k_extra "compareOp NotEq ref ref")
local macro_rules | `(tactic| walk_at "eval ListComp") => `(tactic| (k_here; k_dflt (refine ListComp_W (by k_asm) (by rfl) (by decide) (by rfl) (by decide) (by rfl) ?_)))
local macro_rules | `(tactic| walk_at "call ref") => `(tactic| (
  (with_reducible show wpAny _ _ (call (Value.ref 149) _) _ _ _)
  k_dflt (refine' joined_S _ _ _ _ _ _ ?h0 _ _ _ _ _ _ _ _ _ _ _ _ _ _ _ _ _ _ _ _ ?k1 ?k2 ?k3 ?k4 ?k5 ?k6 ?k7 ?k8 ?_; (case k1 => k_asm); (case k2 => k_asm); (case k3 => k_asm); (case k4 => k_asm); (case k5 => k_asm); (case k6 => first | exact rfl | assumption); (case h0 => (first | omega | l_fact | ((simp only [S_length, List.length_append, List.length_take, List.length_drop, List.length_cons, List.length_nil]); omega))); (case k7 => ktr_room); (case k8 => ktr_units))
  (intro tr9 h9 tk9 F9 N9)
  (try dsimp only)
  (try k_fold)))
theorem fr_three {h₀ h : Heap} {L : Addr} {m₁ m : Str → Option Value} {x y z : Str} (F : Fr h₀ L h m₁) (e : ∀ v, v ≠ x → v ≠ y → v ≠ z → m₁ v = m v) : Fr h₀ L h (fun v => if v = x then m₁ v else if v = y then m₁ v else if v = z then m₁ v else m v) := by
  have : (fun v => if v = x then m₁ v else if v = y then m₁ v else if v = z then m₁ v else m v) = m₁ := by
    funext v
    by_cases h : v = x
    · rw [if_pos h]
    · rw [if_neg h]
      by_cases h2 : v = y
      · rw [if_pos h2]
      · rw [if_neg h2]
        by_cases h3 : v = z
        · rw [if_pos h3]
        · rw [if_neg h3, e v h h2 h3]
  rw [this]; exact F
theorem with3 {G : Prop} {h₀ h : Heap} {L a b c : Addr} {x y z : Obj} {news : List (Addr × Obj)} (Nu : News h₀ L h ((a, x) :: (b, y) :: (c, z) :: news)) (k : ∀ a' b' c', a' = a → b' = b → c' = c → G) : G := k a b c rfl rfl rfl
/-- the turn's ledger without the pair -/
def TabLed (xT xR : Addr) (news : List (Addr × Obj)) (rt tt : RT) (nR nT : Nat) : List (Addr × Obj) := (xT, rowsO tt nT) :: (xR, rowsO rt nR) :: news
theorem allLt_mem {d : Addr} : ∀ {l : List (Addr × Obj)}, AllLt d l → ∀ p ∈ l, p.1 < d
  | [], _, p, hp => by cases hp
  | q :: r, h, p, hp => by
    rcases List.mem_cons.mp hp with rfl | hp
    · exact h.1
    · exact allLt_mem h.2 p hp
theorem mem_rot {α : Type} {a b c d p : α} {l : List α} (h : p ∈ d :: a :: b :: c :: l) : p ∈ a :: b :: c :: d :: l := by
  simp only [List.mem_cons] at h ⊢
  rcases h with h | h | h | h | h <;> simp [h]
theorem mem_rot2 {α : Type} {a b c d p : α} {l : List α} (h : p ∈ c :: d :: a :: b :: l) : p ∈ d :: a :: b :: c :: l := by
  simp only [List.mem_cons] at h ⊢
  rcases h with h | h | h | h | h <;> simp [h]
theorem mem_sw {α : Type} {a b p : α} {l : List α} (h : p ∈ a :: b :: l) : p ∈ b :: a :: l := by
  simp only [List.mem_cons] at h ⊢
  rcases h with h | h | h <;> simp [h]
theorem tab_off {eI iI xT xR : Addr} {oE oI oT oR : Obj} {news : List (Addr × Obj)} (hap : ∀ p ∈ (xT, oT) :: (xR, oR) :: news, ∀ q ∈ [(eI, oE), (iI, oI)], p.1 ≠ q.1) (fA : ∀ p ∈ news, p.1 < xR) (h : xR < xT) : ∀ (o : Obj), ∀ p ∈ (eI, oE) :: (iI, oI) :: (xT, o) :: news, p.1 ≠ xR := fun o p hp => by
  rcases List.mem_cons.mp hp with rfl | hp
  · exact Ne.symm (hap (xR, oR) (.tail _ (.head _)) (eI, oE) (.head _))
  · rcases List.mem_cons.mp hp with rfl | hp
    · exact Ne.symm (hap (xR, oR) (.tail _ (.head _)) (iI, oI) (.tail _ (.head _)))
    · rcases List.mem_cons.mp hp with rfl | hp
      · exact Nat.ne_of_gt h
      · exact Nat.ne_of_lt (fA p hp)
theorem tab_off2 {eI iI xT xR : Addr} {oE oI oT oR : Obj} {news : List (Addr × Obj)} (hap : ∀ p ∈ (xT, oT) :: (xR, oR) :: news, ∀ q ∈ [(eI, oE), (iI, oI)], p.1 ≠ q.1) (fB : ∀ p ∈ news, p.1 < xT) (h : xR < xT) : ∀ (o : Obj), ∀ p ∈ (xR, o) :: (eI, oE) :: (iI, oI) :: news, p.1 ≠ xT := fun o p hp => by
  rcases List.mem_cons.mp hp with rfl | hp
  · exact Nat.ne_of_lt h
  · rcases List.mem_cons.mp hp with rfl | hp
    · exact Ne.symm (hap (xT, oT) (.head _) (eI, oE) (.head _))
    · rcases List.mem_cons.mp hp with rfl | hp
      · exact Ne.symm (hap (xT, oT) (.head _) (iI, oI) (.tail _ (.head _)))
      · exact Nat.ne_of_lt (fB p hp)
theorem tab_off3 {eI iI xT xR : Addr} {oE oI : Obj} {news : List (Addr × Obj)} (hR : ∀ (o : Obj), ∀ p ∈ (eI, oE) :: (iI, oI) :: (xT, o) :: news, p.1 ≠ xR) (_ : xR ≠ xT) : ∀ (o : Obj), ∀ p ∈ (xT, o) :: (eI, oE) :: (iI, oI) :: news, p.1 ≠ xR := fun o p hp => hR o p (by
  simp only [List.mem_cons] at hp ⊢
  rcases hp with h | h | h | h <;> simp [h])
theorem toldP_app {tt : RT} {k : Nat} {u : Tok} (h : (k : Int) = (tt.length : Int)) : (tt ++ [(([] : List Nat), u)]).map (·.1) = toldP (tt.map (·.1)) k := by
  unfold toldP
  rw [if_pos (by simp; omega)]; simp
theorem toldP_id {tt : RT} {k : Nat} (h : ¬ (k : Int) = (tt.length : Int)) : tt.map (·.1) = toldP (tt.map (·.1)) k := by
  unfold toldP
  rw [if_neg (by simp; omega)]
theorem told_item {tt1 : RT} {told : List (List Nat)} {k : Nat} {r : List Nat} {t : Tok} (e : tt1.map (·.1) = toldP told k) (h : tt1[((k : Nat) : Int).toNat]? = some (r, t)) : r = (toldP told k).getD k [] := by
  rw [← e]; exact (map_getD h).symm
theorem told_len {tt1 : RT} {told : List (List Nat)} {k : Nat} {r : List Nat} {t : Tok} (e : tt1.map (·.1) = toldP told k) (h : tt1[((k : Nat) : Int).toNat]? = some (r, t)) (hs : sizeOk (toldP told k) = true) : r.length ≤ 5 :=
  sizeOk_row (rt := tt1) (by rw [e]; exact hs) _ (List.mem_of_getElem? h)
theorem abc_at {i : Nat} (h : i < 5) : (Txt.charAt (Str.ofString "ABCDE") ((i : Nat) : Int)).getD 0 = 65 + i := by
  match i, h with
  | 0, _ => decide +kernel
  | 1, _ => decide +kernel
  | 2, _ => decide +kernel
  | 3, _ => decide +kernel
  | 4, _ => decide +kernel
theorem told_set {tt1 : RT} {told : List (List Nat)} {k i c : Nat} {r : List Nat} {t t2 : Tok} (e : tt1.map (·.1) = toldP told k) (h : tt1[((k : Nat) : Int).toNat]? = some (r, t)) (hc : c = 65 + i) : (tt1.set ((k : Nat) : Int).toNat (r ++ [c], t2)).map (·.1) = toldT told k i := by
  rw [hc, List.map_set, e, told_item e h]
  rfl
theorem told_store {prog : Program} {w : World} {A : Around} {E : Value → Shared → Prop} {s : Shared} {h₀ : Heap} {L d : Addr} {m : Str → Option Value} {rest : List (Addr × Obj)} {tt1 : RT} {n : Nat} {told : List (List Nat)} {k i c : Nat} {r : List Nat} {t u u2 : Tok} {Q : Unit → Shared → Prop}
    (F : Fr h₀ L s.heap m) (N : News h₀ L s.heap ((d, rowsO tt1 n) :: rest)) (off : ∀ p ∈ rest, p.1 ≠ d) (e : tt1.map (·.1) = toldP told k) (hX : tt1[((k : Nat) : Int).toNat]? = some (r, t)) (hc : c = 65 + i) (hz : tt1.length ≤ 1000)
    (h : ∀ h' tt2 n2, Fr h₀ L h' m → News h₀ L h' ((d, rowsO tt2 n2) :: rest) → tt2.map (·.1) = toldT told k i → Q () { s with heap := h' }) :
    wpAny (model prog w) A (setItem (.ref d) (.int ((k : Nat) : Int) u) (.str (S (r ++ [c])) u2)) Q E s := by
  have hl := get_lt hX
  exact rl_set F N (.head off) hz (by omega) (by omega) fun h' F' N' => h h' _ n F' N' (told_set e hX hc)
def JoinT (h₀ : Heap) (L d : Addr) (m : Str → Option Value) (rest : List (Addr × Obj)) (x : List (List Nat)) (s : Shared) (fl : Flow) (s' : Shared) : Prop :=
  fl = .next ∧ ∃ h' tk' tp n, s' = { s with heap := h', toks := tk' } ∧ Fr h₀ L h' m ∧ News h₀ L h' ((d, rowsO tp n) :: rest) ∧ tp.map (·.1) = x
theorem if_told {M : Model} {A : Around} {E : Value → Shared → Prop} {s : Shared} {h₀ : Heap} {L d : Addr} {m : Str → Option Value} {rest : List (Addr × Obj)} {x : List (List Nat)} {st : Stmt} {env : Env} {Q : Flow → Shared → Prop}
    (Fu : Fr h₀ L s.heap m) (h1 : wpAny M A (exec st env) (JoinT h₀ L d m rest x s) E s)
    (h2 : ∀ h' tk' (tp : RT) n, Fr h₀ L h' m → News h₀ L h' ((d, rowsO tp n) :: rest) → tp.map (·.1) = x → Q .next { s with heap := h', toks := tk' }) : wpAny M A (exec st env) Q E s :=
  wpAny_mono h1 (fun fl s' q => by obtain ⟨rfl, h', tk', tp, n, rfl, F', N', e⟩ := q; exact h2 h' tk' tp n F' N' e) fun _ _ e => e
theorem told_lt {tp : RT} {told : List (List Nat)} {k : Nat} (e : tp.map (·.1) = toldP told k) (h : k ≤ told.length) : ((k : Nat) : Int) < (tp.length : Int) := by
  have h1 : tp.length = (toldP told k).length := by rw [← e, List.length_map]
  have h2 : k < (toldP told k).length := by
    unfold toldP
    split
    · simp; omega
    · omega
  omega
theorem row_len5 {rt : RT} {i : Nat} {r : List Nat} {t : Tok} (h : sizeOk (rt.map (·.1)) = true) (e : rt[i]? = some (r, t)) : (S r).length ≤ 60 := by
  have h1 : r.length ≤ 5 := sizeOk_row h _ (List.mem_of_getElem? e)
  rw [S_length]; omega
theorem mem_end {α : Type} {d1 d2 e i x y p : α} {l : List α} (h : p ∈ e :: i :: x :: y :: l) : p ∈ d1 :: d2 :: x :: y :: e :: i :: l := by
  simp only [List.mem_cons] at h ⊢
  rcases h with h | h | h | h | h <;> simp [h]
theorem tab_ap {xT xR : Addr} {o1 o2 o3 o4 : Obj} {its news : List (Addr × Obj)} (hap : ∀ p ∈ (xT, o1) :: (xR, o2) :: news, ∀ q ∈ its, p.1 ≠ q.1) : ∀ p ∈ (xT, o3) :: (xR, o4) :: news, ∀ q ∈ its, p.1 ≠ q.1 := fun p hp q hq => by
  rcases List.mem_cons.mp hp with rfl | hp
  · exact hap (xT, o1) (.head _) q hq
  · rcases List.mem_cons.mp hp with rfl | hp
    · exact hap (xR, o2) (.tail _ (.head _)) q hq
    · exact hap p (.tail _ (.tail _ hp)) q hq
theorem lens_of {x y : List (List Nat)} (h : x.map List.length = y.map List.length) : lens x = lens y := by
  have e : ∀ z : List (List Nat), lens z = (z.map List.length).map fun n : Nat => (n : Int) := fun z => by unfold lens; rw [List.map_map]; rfl
  rw [e, e, h]
theorem mem_sw2 {α : Type} {a b c p : α} {l : List α} (h : p ∈ a :: b :: c :: l) : p ∈ a :: c :: b :: l := by
  simp only [List.mem_cons] at h ⊢
  rcases h with h | h | h | h <;> simp [h]
theorem S_size (l : List Nat) : (S l).cps.size = l.length := by simp [S]
theorem S_get {l : List Nat} {i c : Nat} (h : (S l).cps[i]? = some c) : l[i]? = some c := by simpa [S] using h
theorem tables_ok (w : World) (news : List (Addr × Obj)) (l : List Nat) (t : Tok) (h5 : l.length = 5) (hok : tabsOk l 0 [] [] = true) : CtrD w 370 40 600 news [.str (S l) t] (fun K => ∀ D dR dT nR nT rt tt, (∀ p ∈ news, p.1 < dR ∧ p.1 < dT ∧ p.1 < D) → dR ≠ dT → D ≠ dR → D ≠ dT → rt.map (·.1) = (tabs l 0 [] []).1 → tt.map (·.1) = (tabs l 0 [] []).2 → K (.ref D) ((D, tupObj #[.ref dR, .ref dT] 0) :: (dR, rowsO rt nR) :: (dT, rowsO tt nT) :: news)) := by
  intro mean mg mb dp un gd cn cs a ccd cl outer A₀ base h₀ L m s Q E B F X N T hk hdp hu hret
  k_with_none
  (k_with "exec If" => ((with_reducible show wpAny _ _ (exec (Stmt.If _ [Stmt.Expr _ _] [] _) _) _ _ _); (fail_if_success (with_reducible show wpAny _ _ _ (JoinT _ _ _ _ _ _ _) _ _)); k_here; (k_dflt (refine if_told (x := toldP (tt.map (·.1)) (putIn (rt.map (·.1)) [cI]).2) (d := xT) (rest := (xR, rowsO rt1 nR1) :: (eI, oE) :: (iI, oI) :: news) (by k_asm) ?_ ?_)); rotate_left; (intro hJ tkJ tp1 nTp FJ NJ eTp); (k_dflt (have hz4 : tp1.length ≤ 5 := sizeOk_len (by rw [eTp]; exact hGo.tp))); rotate_right))
  (k_with "exec For Tuple Call cons nil" => ((rename Fr _ _ _ _ => lF'); (with_unfolding_all refine' For_D lF' ?_); k_whole))
  (k_with "call type:enumerate" => (k_dflt (
    (rename News _ _ _ _ => lN')
    (refine with3 lN' (fun xD xT xR eD eT eR => ?_); subst eD eT eR)
    (have fA : ∀ p ∈ news, p.1 < xR := by assumption); (have fB : xR < xT ∧ AllLt xT news := by assumption); (have fC : xT < xD ∧ xR < xD ∧ AllLt xD news := by assumption)
    (have fB2 := allLt_mem fB.2); (have hRT : xR ≠ xT := Nat.ne_of_lt fB.1)
    (rename Fr _ _ _ _ => lF')
    (with_unfolding_all refine' enumS_D (by rfl) lF' (cb_drop lN' (fun p hp => .tail _ hp)) (fun i m₁ news₁ => (∃ rt tt nR nT, news₁ = (xT, rowsO tt nT) :: (xR, rowsO rt nR) :: news ∧ TabInv l i rt tt) ∧ ∀ z, z ≠ Str.ofString "at" → z ≠ Str.ofString "sign" → z ≠ Str.ofString "which" → m₁ z = if z = Str.ofString "rows" then some (.ref xR) else if z = Str.ofString "told" then some (.ref xT) else List.lookup z [(Str.ofString "word", Value.str (S l) t)]) ?h0 ?_ ?_)
    (case h0 => exact ⟨⟨[], [], 0, 0, rfl, TabInv.start hok⟩, fun z _ _ _ => by with_unfolding_all rfl⟩)
    (all_goals (try clear lF' lN'))
    (all_goals first
      | (rintro eI iI iN cI uI TI tI hI kI drI mI nI hiN hcI hTI ⟨⟨rt, tt, nR, nT, rfl, hInv⟩, hmI⟩ FI oE hcE oI hcO NI hap; (rw [S_size] at hiN); (have hcl := S_get hcI); (have hGo := hInv.go hcl); (replace FI := fr_three FI hmI); (try simp only [List.cons_append, List.nil_append] at NI); (have hR := tab_off hap fA fB.1); (have hT := tab_off2 hap fB2 fB.1); (have hz1 := sizeOk_len hGo.rs); (have hz2 := sizeOk_len hGo.ts); (have hi5 := hGo.i5))
      | (rintro mI nI hI kI drI ⟨⟨rt, tt, nR, nT, rfl, hInv⟩, hmI⟩ FI NI; (replace FI := fr_three FI hmI); (have hDone := hInv.done (S_size l))))
    (all_goals (try k_fold)))))
  (k_with "call ref" => first
    | ((with_reducible show wpAny _ _ (call (Value.ref 353) _) _ _ _)
       k_dflt (refine' put_in_ok _ ((eI, oE) :: (iI, oI) :: (xT, rowsO tt nT) :: news) xR nR rt [cI] uI (hR _) hz1 (sizeOk_row hGo.rs) rfl _ _ _ _ _ _ _ _ _ _ _ _ _ _ _ _ _ _ _ _ ?k1 ?k2 ?k3 ?k4 ?k5 ?k6 ?k7 ?k8 ?_; (case k1 => k_asm); (case k2 => k_asm); (case k3 => k_asm); (case k5 => k_asm); (case k6 => first | exact rfl | assumption); (case k7 => ktr_room); (case k8 => ktr_units); (case k4 => exact cb_drop (by assumption) (fun p hp => mem_rot hp)))
       (intro rt1 nR1 tr1 hrt1 h9 tk9 F9 N9; (replace N9 := cb_drop N9 (fun p hp => mem_rot2 hp)); (have hWh : (putIn (rt.map (·.1)) [cI]).2 ≤ tt.length := hGo.wh); k_dflt (have hz3 : rt1.length ≤ 5 := sizeOk_len (by rw [hrt1]; exact hGo.rs2)); (try dsimp only); (try k_fold)))
    | ((with_reducible show wpAny _ _ (call (Value.ref 365) [Value.ref xR]) _ _ _)
       k_dflt (refine' rises_ok _ ((xT, rowsO tt2 nT2) :: (eI, oE) :: (iI, oI) :: news) xR nR1 rt1 (tab_off3 hR hRT _) hz3 (sizeOk_row (by rw [hrt1]; exact hGo.rs2)) (sizeOk_low (by rw [hrt1]; exact hGo.rs2)) (by rw [hrt1]; exact hGo.r1) _ _ _ _ _ _ _ _ _ _ _ _ _ _ _ _ _ _ _ _ ?k1 ?k2 ?k3 ?k4 ?k5 ?k6 ?k7 ?k8 ?_; (case k1 => k_asm); (case k2 => k_asm); (case k3 => k_asm); (case k5 => k_asm); (case k6 => first | exact rfl | assumption); (case k7 => ktr_room); (case k8 => ktr_units); (case k4 => exact cb_drop (by assumption) (fun p hp => mem_sw hp)))
       (intro h9 tk9 dr9 F9 N9; (replace N9 := cb_drop N9 (fun p hp => mem_sw hp)); (try dsimp only); (try k_fold)))
    | ((with_reducible show wpAny _ _ (call (Value.ref 365) [Value.ref xT]) _ _ _)
       k_dflt (refine' rises_ok _ ((xR, rowsO rt1 nR1) :: (eI, oE) :: (iI, oI) :: news) xT nT2 tt2 (hT _) (sizeOk_len (by rw [eT2]; exact hGo.ts2)) (sizeOk_row (by rw [eT2]; exact hGo.ts2)) (sizeOk_low (by rw [eT2]; exact hGo.ts2)) (by rw [eT2]; exact hGo.r2) _ _ _ _ _ _ _ _ _ _ _ _ _ _ _ _ _ _ _ _ ?k1 ?k2 ?k3 ?k4 ?k5 ?k6 ?k7 ?k8 ?_; (case k1 => k_asm); (case k2 => k_asm); (case k3 => k_asm); (case k5 => k_asm); (case k6 => first | exact rfl | assumption); (case k7 => ktr_room); (case k8 => ktr_units); (case k4 => k_asm))
       (intro h9 tk9 dr9 F9 N9; (try dsimp only); (try k_fold))))
  (k_with "call builtin:len" => refine rl_len (by k_asm) (by k_mem) (by omega) ?_)
  (k_with "call builtin:list.append" => (k_dflt (refine rl_append (r := []) (by k_asm) (by k_asm) (.head (hT _)) (by omega) ?_); intro h9' F9' N9'))
  (k_with "subscriptTail Name Name ref int" => (refine rl_item (by k_asm) (by k_mem) (by omega) (by omega) (told_lt eTp (by rw [List.length_map]; exact hWh)) ?_; intro rX tX hX; k_dflt (have hXo := told_len eTp hX hGo.tp)))
  (k_with "setItem ref int" => (k_dflt (refine told_store (tt1 := tp1) (i := iN) (by k_asm) (by k_asm) (hT _) eTp hX (abc_at hi5) (by omega) ?_); intro h9' tt2 nT2 F9' N9' eT2))
  (k_with "pyIter ref" => (
    ((with_reducible show wpAny _ _ (pyIter (Value.ref _)) (SrcW _ _ _ _ _ _ _) _ _); k_here)
    (k_dflt (refine src_list (by rfl) (by k_asm) (by k_asm) (by k_mem) (by rw [List.size_toArray, tv_length, sizeLine_eq]; first | omega | (have := sizeOk_len (rt := tt2) (by rw [eT2]; exact hGo.ts2); omega)) ?_))
    (intro g'; (try dsimp only); refine comp_lens ?_ ?_)
    (all_goals first
      | (intro iC rC tC ysC hrC IC oIC CC oCC DC mC hC' tkC EC hNC hmC FC' NC' offC neC; (have hrl := S_length rC); (have hrb : (S rC).length ≤ 60 := row_len5 (by first | (rw [hrt1]; exact hGo.rs2) | (rw [eT2]; exact hGo.ts2)) hrC); (try k_fold))
      | (intro ysF hIF D11 h11 tk11 F11 N11 o11; (try k_fold)))))
  (k_with "compareOp NotEq ref ref" => (k_dflt (refine ne_lst (by k_asm) (by k_mem) (by k_mem) (by assumption) (by assumption) ?_ ?_ ?_)))
  refine wpAny_call ?_
  k_dflt cell_enter
  k_steps
  · exact ⟨rfl, _, _, _, _, rfl, F9', N9', toldP_app (by assumption)⟩
  · exact ⟨rfl, _, _, _, _, rfl, by assumption, by assumption, toldP_id (by assumption)⟩
  · exact LCg.CompEnd.intro (by assumption) NC' _ (fun p hp => hp) offC (by k_mem) ⟨rfl, _, congrArg (fun n : Nat => Value.int (n : Int) _) hrl⟩
  · exact LCg.CompEnd.intro (by assumption) NC' _ (fun p hp => hp) offC (by k_mem) ⟨rfl, _, congrArg (fun n : Nat => Value.int (n : Int) _) hrl⟩
  · (rw [hrt1, eT2]; exact lens_of hGo.le)
  · first | units_room | ktr_units | omega
  · refine ⟨_, _, _, _, (xT, rowsO tt2 nT2) :: (xR, rowsO rt1 nR1) :: news, rfl, F11, cb_drop N11 (fun p hp => mem_end hp), tab_ap hap, (fun p hp => by cases hp), ⟨rt1, tt2, nR1, nT2, rfl, hInv.next hcl hrt1 eT2⟩, ?hm9⟩
    (case hm9 => intro z h1 h2 h3; simp only [if_neg h1, if_neg h2, if_neg h3])
  · (rename _ < _ ∧ _ < _ ∧ AllLt _ news => hD9)
    have hD8 := allLt_mem hD9.2.2
    refine' hret _ xR xT nR nT rt tt (fun p hp => ⟨fA p hp, fB2 p hp, hD8 p hp⟩) hRT (Nat.ne_of_gt hD9.2.1) (Nat.ne_of_gt hD9.1) hDone.1 hDone.2 _ _ _ ?zf ?zn
    (case zf => k_asm)
    (case zn => exact cb_drop (by assumption) (fun p hp => mem_sw2 hp))

end Mine
end
section
-- P8
open PySem PySem.W PyProof.Rows PySem.Spec PySem.Calls
set_option maxRecDepth 100000
set_option maxHeartbeats 4000000
namespace Mine
/-- the signs at the places of a mask -/
def partN (l : List Nat) (mask : Nat) : Nat → List Nat
  | 0 => []
  | n + 1 => partN l mask n ++ (if mask / 2 ^ n % 2 = 1 then [l.getD n 0] else [])
def ascB : List Nat → Bool
  | [] => true
  | [_] => true
  | a :: b :: r => decide (a ≤ b) && ascB (b :: r)
def goodB (b : Bool) (p : List Nat) : Bool := if b = true then ascB p else ascB p.reverse
def bestN (l : List Nat) (b : Bool) : Nat → Nat
  | 0 => 0
  | n + 1 => if goodB b (partN l n 5) = true then max (bestN l b n) (partN l n 5).length else bestN l b n
theorem ascB_pw : ∀ r : List Nat, ascB r = true ↔ r.Pairwise (· ≤ ·)
  | [] => by simp [ascB]
  | [a] => by simp [ascB]
  | a :: b :: r => by
    have ih := ascB_pw (b :: r)
    unfold ascB
    rw [Bool.and_eq_true, decide_eq_true_eq, ih]
    constructor
    · rintro ⟨h1, h2⟩
      refine List.pairwise_cons.mpr ⟨fun z hz => ?_, h2⟩
      rcases List.mem_cons.mp hz with rfl | hz
      · exact h1
      · exact Nat.le_trans h1 ((List.pairwise_cons.mp h2).1 z hz)
    · intro h
      have h' := List.pairwise_cons.mp h
      exact ⟨h'.1 b (List.mem_cons_self ..), h'.2⟩
theorem part_len (l : List Nat) (mask : Nat) : ∀ n, (partN l mask n).length ≤ n
  | 0 => Nat.le_refl _
  | n + 1 => by
    have := part_len l mask n
    unfold partN
    rw [List.length_append]
    split <;> simp <;> omega
theorem part_low {l : List Nat} {mask : Nat} (h : ∀ c ∈ l, c < 128) : ∀ n, n ≤ l.length → ∀ c ∈ partN l mask n, c < 128
  | 0, _, c, hc => by simp [partN] at hc
  | n + 1, hn, c, hc => by
    unfold partN at hc
    rcases List.mem_append.mp hc with q | q
    · exact part_low h n (by omega) c q
    · split at q
      · rw [List.mem_singleton.mp q, List.getD_eq_getElem?_getD, List.getElem?_eq_getElem (by omega)]
        exact h _ (List.getElem_mem _)
      · cases q
def sing (ks : List Nat) : List (List Nat) := ks.map fun c => [c]
theorem sing_inj : ∀ {a b : List Nat}, sing a = sing b ↔ a = b
  | [], [] => by simp
  | [], _ :: _ => by simp [sing]
  | _ :: _, [] => by simp [sing]
  | a :: r, b :: q => by
    have ih := @sing_inj r q
    unfold sing at *
    simp [ih]
theorem sort_eq {ks zs : List Nat} (p : zs.Perm ks) (h : zs.Pairwise (· ≤ ·)) : decide (sing ks = sing zs) = ascB ks := by
  rw [Bool.eq_iff_iff, decide_eq_true_eq, sing_inj, ascB_pw]
  constructor
  · rintro rfl; exact h
  · intro hk; exact (uniq_nat p h hk).symm
theorem sort_rev {ks zs : List Nat} (p : zs.Perm ks) (h : zs.Pairwise (· ≤ ·)) : decide (sing ks = (sing zs).reverse) = ascB ks.reverse := by
  have e : (sing zs).reverse = sing zs.reverse := by unfold sing; rw [List.map_reverse]
  rw [e, Bool.eq_iff_iff, decide_eq_true_eq, sing_inj, ascB_pw]
  constructor
  · rintro rfl; rw [List.reverse_reverse]; exact h
  · intro hk
    have := uniq_nat (p.trans (List.reverse_perm ks).symm) h hk
    rw [this, List.reverse_reverse]
theorem strsAre_tv : ∀ {rt : RT} {ks : List Nat}, rt.map (·.1) = sing ks → StrsAre (tv rt) (ks.map one)
  | [], [], _ => .nil
  | [], _ :: _, h => by simp [sing] at h
  | _ :: _, [], h => by simp [sing] at h
  | (l, t) :: r, k :: ks, h => by
    unfold sing at h
    rw [List.map_cons, List.map_cons] at h
    have h1 := (List.cons.inj h).1
    have h2 := (List.cons.inj h).2
    simp only at h1
    subst h1
    exact .cons (one k) t (strsAre_tv (ks := ks) h2)
theorem one_perm {ss : List Str} {ks : List Nat} (p : ss.Perm (ks.map one)) (hs : sortedS ss = true) : ∃ zs : List Nat, ss = zs.map one ∧ zs.Perm ks ∧ zs.Pairwise (· ≤ ·) := by
  have e : ss = (ss.map fun x => x.cps.getD 0 0).map one := by
    rw [List.map_map]
    symm
    rw [List.map_congr_left (g := id), List.map_id]
    intro x hx
    obtain ⟨c, _, rfl⟩ := List.mem_map.mp (p.mem_iff.mp hx)
    rfl
  refine ⟨ss.map fun x => x.cps.getD 0 0, e, ?_, ?_⟩
  · have h1 := p.map (fun x : Str => x.cps.getD 0 0)
    rw [List.map_map] at h1
    have e2 : ks.map ((fun x : Str => x.cps.getD 0 0) ∘ one) = ks := by
      rw [List.map_congr_left (g := id), List.map_id]
      intro c _; rfl
    rwa [e2] at h1
  · generalize ss.map (fun x : Str => x.cps.getD 0 0) = zs at e
    subst e
    cases zs with
    | nil => exact List.Pairwise.nil
    | cons x r => exact rising_one r x hs
theorem sorted_row {prog : Program} {w : World} {A : Around} {E : Value → Shared → Prop} {s : Shared} {h₀ : Heap} {L a : Addr} {m : Str → Option Value} {news : List (Addr × Obj)} {rt : RT} {ks : List Nat} {Q : Value → Shared → Prop}
    (F : Fr h₀ L s.heap m) (N : News h₀ L s.heap news) (hl : s.heap.IsList a (tv rt).toArray) (e : rt.map (·.1) = sing ks) (hz : ks.length ≤ 60)
    (h : ∀ (D : Addr) (h' : Heap) (rt' : RT) (zs : List Nat) (n : Nat), Fr h₀ L h' m → News h₀ L h' ((D, rowsO rt' n) :: news) → rt'.map (·.1) = sing zs → zs.Perm ks → zs.Pairwise (· ≤ ·) → Q (.ref D) { s with heap := h' }) :
    wpAny (model prog w) A (call (.builtin "sorted") [.ref a]) Q E s := by
  have hlen : (tv rt).length = ks.length := by
    rw [tv_length, ← List.length_map (f := (·.1)), e]; unfold sing; rw [List.length_map]
  refine sorted_N_str F N hl (strsAre_tv e) (by omega) fun h' vs' ss' n F' N' hS hp hs => ?_
  obtain ⟨zs, rfl, p1, p2⟩ := one_perm hp hs
  obtain ⟨rt', rfl, e'⟩ := strs_rt hS
  exact h _ h' rt' zs n F' N' e' p1 p2
theorem eq_part {prog : Program} {w : World} {A : Around} {E : Value → Shared → Prop} {s : Shared} {a b : Addr} {r1 r2 : RT} {Q : Value → Shared → Prop} {x y : List (List Nat)} {d : Bool} (ha : s.heap.IsList a (tv r1).toArray) (hb : s.heap.IsList b (tv r2).toArray) (e1 : r1.map (·.1) = x) (e2 : r2.map (·.1) = y) (h1 : ∀ p ∈ x, ∀ c ∈ p, c < 128) (h2 : ∀ p ∈ y, ∀ c ∈ p, c < 128)
    (ed : decide (x = y) = d) (hu : A.units + 64 < cLine) (h : Q (.bool d) s) :
    wpAny (model prog w) A (compareOp .Eq (.ref a) (.ref b)) Q E s := by
  subst e1 e2 ed
  exact eq_rows ha hb (fun p hp => h1 _ (List.mem_map.mpr ⟨p, hp, rfl⟩)) (fun p hp => h2 _ (List.mem_map.mpr ⟨p, hp, rfl⟩)) hu h
theorem sing_low {ks : List Nat} (h : ∀ c ∈ ks, c < 128) : ∀ p ∈ sing ks, ∀ c ∈ p, c < 128 := fun p hp c hc => by
  obtain ⟨k, hk, rfl⟩ := List.mem_map.mp hp
  rw [List.mem_singleton.mp hc]; exact h k hk
theorem perm_low {ks zs : List Nat} (p : zs.Perm ks) (h : ∀ c ∈ ks, c < 128) : ∀ c ∈ zs, c < 128 := fun c hc => h c (p.mem_iff.mp hc)
theorem tv_reverse (rt : RT) : (tv rt).toArray.toList.reverse = tv rt.reverse := by
  unfold tv; rw [List.map_reverse]
theorem part_step {rt : RT} {l : List Nat} {mask i : Nat} {t : Tok} (h : rt.map (·.1) = sing (partN l mask i)) (hb : mask / 2 ^ i % 2 = 1) : (rt ++ [([l.getD i 0], t)]).map (·.1) = sing (partN l mask (i + 1)) := by
  rw [List.map_append, h]
  unfold sing
  rw [partN, if_pos hb, List.map_append]; rfl
theorem part_skip {rt : RT} {l : List Nat} {mask i : Nat} (h : rt.map (·.1) = sing (partN l mask i)) (hb : ¬ mask / 2 ^ i % 2 = 1) : rt.map (·.1) = sing (partN l mask (i + 1)) := by
  rw [h, partN, if_neg hb, List.append_nil]
theorem comp_part {prog : Program} {w : World} {A : Around} {s : Shared} {h₀ : Heap} {L : Addr} {m : Str → Option Value} {env : Env} {ct elt : PySem.Expr} {x : Str} {scope : Scope} {cl : List (Str × Addr)} {T : List (Addr × Obj) → Prop} {Fin : List Value → List (Addr × Obj) → Prop} {l : List Nat} {mask : Nat} {news : List (Addr × Obj)}
    (turn : ∀ (i : Nat) (t : Tok) (ys : List Value), i < 5 → ∀ I oI C oC D m₂ h tk (E' : Value → Shared → Prop), LCg.NsObj oC m₂ → m₂ x = some (.int (i : Int) t) → Fr h₀ L h m → News h₀ L h ((I, oI) :: (C, oC) :: (D, LCg.lst ys) :: news) → LCg.Off3 I C D news → ((@Ne Nat I C) ∧ (@Ne Nat I D) ∧ (@Ne Nat C D)) →
      wpAny (model prog w) A (isTrue ct (compEnvC scope cl C env) (eval ct (compEnvC scope cl C env))) (fun ok s' => ok = decide (mask / 2 ^ i % 2 = 1) ∧ if ok = true then
        wpAny (model prog w) A (eval elt (compEnvC scope cl C env)) (LCg.CompEnd h₀ L m { s with heap := h, toks := tk } I oI C oC D (LCg.lst ys) T (fun y nw => nw = news ∧ ∃ u, y = .str (S [l.getD i 0]) u)) E' s'
        else LCg.CompEnd h₀ L m { s with heap := h, toks := tk } I oI C oC D (LCg.lst ys) T (fun _ nw => nw = news) Value.none s') E' { s with heap := h, toks := tk })
    (fin : ∀ rt : RT, rt.map (·.1) = sing (partN l mask 5) → Fin (tv rt) news) : LCt.CompRestT prog w A h₀ L m env ct elt x scope cl s T (fun i v => ∃ t, v = .int (0 + (i : Int)) t) Fin 5 0 [] news := by
  refine compT_ind (n := 5) (fun i ys nw => nw = news ∧ ∃ rt : RT, ys = tv rt ∧ rt.map (·.1) = sing (partN l mask i)) (fun i ys nw hi hI v I oI C oC D m₂ h tk E' hv a b c d e f => ?_) (fun ys nw hI => ?_) _ 0 [] news (by omega) ⟨rfl, [], rfl, rfl⟩
  · obtain ⟨rfl, rt, rfl, hr⟩ := hI
    obtain ⟨t, rfl⟩ := hv
    rw [Int.zero_add] at b
    refine wpAny_mono (turn i t _ hi I oI C oC D m₂ h tk E' a b c d e f) (fun ok s' q => ?_) fun _ _ z => z
    obtain ⟨rfl, q⟩ := q
    by_cases er : mask / 2 ^ i % 2 = 1
    · rw [decide_eq_true er] at q ⊢
      simp only [if_true] at q ⊢
      refine wpAny_mono q (fun y s'' z => CompEnd.mono z fun n' hn => ?_) fun _ _ z => z
      obtain ⟨rfl, u, rfl⟩ := hn
      exact ⟨rfl, _, (tv_append rt [([l.getD i 0], u)]).symm, part_step hr er⟩
    · rw [decide_eq_false er] at q ⊢
      simp only [Bool.false_eq_true, if_false] at q ⊢
      exact CompEnd.mono q fun n' hn => ⟨hn, rt, rfl, part_skip hr er⟩
  · obtain ⟨rfl, rt, rfl, hr⟩ := hI
    exact fin rt hr
theorem rt_sing_len {rt : RT} {ks : List Nat} (h : rt.map (·.1) = sing ks) : rt.length = ks.length := by
  rw [← List.length_map (f := (·.1)), h]; unfold sing; rw [List.length_map]
theorem fr_best {h₀ h : Heap} {L : Addr} {m₁ m : Str → Option Value} {x y : Str} {v : Value} (F : Fr h₀ L h m₁) (e1 : m₁ x = some v) (e : ∀ z, z ≠ x → z ≠ y → m₁ z = m z) : Fr h₀ L h (fun z => if z = x then some v else if z = y then m₁ z else m z) := by
  have : (fun z => if z = x then some v else if z = y then m₁ z else m z) = m₁ := by
    funext z
    by_cases h : z = x
    · rw [if_pos h, h, e1]
    · rw [if_neg h]
      by_cases h2 : z = y
      · rw [if_pos h2]
      · rw [if_neg h2, e z h h2]
  rw [this]; exact F
theorem best_next {l : List Nat} {b : Bool} {i : Nat} (h : goodB b (partN l i 5) = true) : bestN l b (i + 1) = max (bestN l b i) (partN l i 5).length := by
  rw [bestN, if_pos h]
theorem best_same {l : List Nat} {b : Bool} {i : Nat} (h : goodB b (partN l i 5) = false) : bestN l b (i + 1) = bestN l b i := by
  rw [bestN, if_neg (by rw [h]; decide)]
theorem lc_off {LC : Addr} {news : List (Addr × Obj)} (h : ∀ p ∈ news, p.1 < LC) (o2 : Obj) : ∀ p ∈ (LC + 1, o2) :: news, p.1 ≠ LC + 1 + 1 := fun p hp => by
  rcases List.mem_cons.mp hp with rfl | hp
  · exact Nat.ne_of_lt (Nat.lt_succ_self _)
  · exact Nat.ne_of_lt (Nat.lt_succ_of_lt (Nat.lt_succ_of_lt (h p hp)))
theorem part_rev {rt : RT} {zs : List Nat} (h : rt.map (·.1) = sing zs) : rt.reverse.map (·.1) = (sing zs).reverse := by rw [List.map_reverse, h]
theorem rev_low {ks : List Nat} (h : ∀ c ∈ ks, c < 128) : ∀ p ∈ (sing ks).reverse, ∀ c ∈ p, c < 128 := fun p hp => sing_low h p (List.mem_reverse.mp hp)
theorem bit_is (m i : Nat) : (Builtin.bitAnd ((0 + (m : Int)).fdiv (2 ^ (i : Int).toNat)) 1 == 1) = decide (m / 2 ^ i % 2 = 1) := by
  rw [bitAnd_m1, Int.zero_add, Int.toNat_natCast, Int.fdiv_eq_ediv_of_nonneg _ (by exact_mod_cast Nat.zero_le (2 ^ i))]
  have e : ((m : Int) / 2 ^ i) % 2 = ((m / 2 ^ i % 2 : Nat) : Int) := by
    simp
  rw [e, Bool.eq_iff_iff, decide_eq_true_eq, beq_iff_eq]
  omega
theorem two_ap {xT xR : Addr} {o1 o2 o3 o4 : Obj} {its news : List (Addr × Obj)} (hap : ∀ p ∈ (xT, o1) :: (xR, o2) :: news, ∀ q ∈ its, p.1 ≠ q.1) : ∀ p ∈ (xT, o3) :: (xR, o4) :: news, ∀ q ∈ its, p.1 ≠ q.1 := fun p hp q hq => by
  rcases List.mem_cons.mp hp with rfl | hp
  · exact hap (xT, o1) (.head _) q hq
  · rcases List.mem_cons.mp hp with rfl | hp
    · exact hap (xR, o2) (.tail _ (.head _)) q hq
    · exact hap p (.tail _ (.tail _ hp)) q hq
theorem best_max {l : List Nat} {b : Bool} {i : Nat} {rt : RT} (h : goodB b (partN l i 5) = true) (hl : rt.length = (partN l i 5).length) : (if (rt.length : Int) > (bestN l b i : Int) then (rt.length : Int) else (bestN l b i : Int)) = (bestN l b (i + 1) : Int) := by
  rw [best_next h, hl]
  split <;> omega
theorem best_at {x y : Str} {m : Str → Option Value} {v : Value} (h : x ≠ y) : (if x = y then m x else some v) = some v := if_neg h
end Mine
end
section
-- De
open PySem PySem.W PyProof.Rows PySem.Spec PySem.Calls PyProof
set_option maxRecDepth 100000
set_option maxHeartbeats 4000000
namespace Mine
section
variable {prog : Program} {w : World} {A : Around} {E : Value → Shared → Prop} {s : Shared} {env : Env} {h₀ : Heap} {body : List Stmt} {Q : Flow → Shared → Prop}
/-- the loop over a range -/
theorem iter_rangeD {r : Addr} {a b : Int} {t0 u0 v0 : Tok} {n : Nat} {nm : Str} {ps : Pos} {m₀ : Str → Option Value} {news : List (Addr × Obj)} (hh : A.handled = none) (hr : IsRange s.heap r a b 1 t0 u0 v0) (hsmall : Builtin.Range.small a b 1 = true) (hn : Builtin.Range.rangeSize a b 1 = (n : Int)) (F : Fr h₀ env.locals s.heap m₀) (N : News h₀ env.locals s.heap news)
    (Inv : Nat → (Str → Option Value) → List (Addr × Obj) → Prop) (h0 : Inv 0 m₀ news)
    (turn : ∀ I i h tk u dr m₁ news₁, i < n → Inv i m₁ news₁ → Fr h₀ env.locals h m₁ → AllObj [(I, "range_iterator")] (fun its => News h₀ env.locals h (its ++ news₁) → (∀ p ∈ news₁, ∀ q ∈ its, p.1 ≠ q.1) →
      wpAny (model prog w) A (assign (.Name nm ps) env (.int (a + (i : Int)) u)) (fun _ s₂ => wpAny (model prog w) A (execs body env) (PostD h₀ env.locals { s with heap := h, toks := tk, drawn := dr } its [] (Inv (i + 1)) Q) E s₂) E { s with heap := h, toks := tk, drawn := dr }))
    (done : ∀ m₁ news₁ h tk dr, Inv n m₁ news₁ → Fr h₀ env.locals h m₁ → News h₀ env.locals h news₁ → Q .next { s with heap := h, toks := tk, drawn := dr }) :
    wpAny (model prog w) A (pyIter (.ref r)) (fun it s₂ => TurnsD prog w A env (.Name nm ps) body Q E it s₂) E s := by
  refine wpAny_pyIter_range hr hsmall ?_
  rw [hn]
  refine core_D (tk0 := s.toks) (ws := [(s.heap.objs.size, "range_iterator")]) (keep := []) (fun i v _ => ∃ t, v = .int (a + i * 1) t) (KTurns.ofWalks (Walks.range (prog := prog) (w := w) hh s.heap.objs.size a 1 n) fun i v s Q E st q => wpAny_pure q) (fun i v h _ p => p) (fun i h st => ?_) (fun b hb => ?_) (fun b hb => by simpa using hb) (fun b hb => .inl (by simpa using hb)) ?_ (fun p hp hI => ?_) ?_ (F.push _) (fun p hp => ⟨Heap.get?_push_of_some _ (N p hp).1, (N p hp).2⟩) (fun p hp => by cases hp) Inv h0 ?_ done
  · exact ⟨[(s.heap.objs.size, _)], ⟨⟨rfl, rfl⟩, trivial⟩, fun p hp => by rw [List.mem_singleton.mp hp]; exact st⟩
  · have hb' : b = s.heap.objs.size := by simpa using hb
    rw [hb']; exact ⟨List.mem_cons_self .., next_is_new F⟩
  · intro hI
    exact absurd F.ns.lt ((List.mem_singleton.mp hI) ▸ Nat.lt_irrefl _)
  · have e : p.1 = s.heap.objs.size := by simpa using hI
    exact absurd (news_lt N hp) (e ▸ Nat.lt_irrefl _)
  · show (s.heap.push _).get? s.heap.objs.size = _
    rw [Heap.get?_push_size _ rfl]; simp
  · rintro i v h tk dr m₁ news₁ hi ⟨u, rfl⟩ hI _ F₁
    rw [Int.mul_one]
    exact turn _ i h tk u dr m₁ news₁ hi hI F₁
end
end Mine
end
section
-- C8
open PySem PySem.W PyProof.Rows PySem.Spec PySem.Calls PyProof.Rows.LCg PyProof.Rows.LCt
set_option maxRecDepth 100000
set_option maxHeartbeats 4000000
namespace Mine

local macro_rules | `(tactic| walk_at "exec Assign cons ListComp") => `(tactic| k_extra "exec Assign cons ListComp")
local macro_rules | `(tactic| walk_at "call builtin:sorted") => `(tactic| k_extra "call builtin:sorted")
local macro_rules | `(tactic| walk_at "compareOp Eq ref ref") => `(tactic| k_extra "compareOp Eq ref ref")
local macro_rules | `(tactic| walk_at "call builtin:len") => `(tactic| k_extra "call builtin:len")
local macro_rules | `(tactic| walk_at "subscriptTail Name Name str int") => `(tactic| k_extra "subscriptTail Name Name str int")
local macro_rules | `(tactic| walk_at "pyIter ref") => `(tactic| k_extra "pyIter ref")
local macro_rules | `(tactic| walk_at "call type:range") => `(tactic| k_extra "call type:range")
local macro_rules | `(tactic| walk_at "subscriptTail Name Slice ref ref") => `(tactic| k_extra "subscriptTail Name Slice ref ref")
theorem longest_true (w : World) (news : List (Addr × Obj)) (l : List Nat) (t : Tok) (h5 : l.length = 5) (hlow : ∀ c ∈ l, c < 128) : CtrD w 375 20 250 news [.str (S l) t, .bool true] (fun K => ∀ tr, K (.int (bestN l true 32 : Int) tr) news) := by
  intro mean mg mb dp un gd cn cs a ccd cl outer A₀ base h₀ L m s Q E B F X N T hk hdp hu hret
  k_with_none
  (have hSl := S_length l)
  (k_with "exec For Name Call cons nil" => ((rename Fr _ _ _ _ => lF'); (with_unfolding_all refine' For_D lF' ?_); k_whole))
  (k_with "storeName" => (refine' storeX_C (c := LC + 1 + 1) (news := (iI, oI) :: (LC + 1 + 1, o1) :: (LC + 1, o2) :: news) ?F ?N ?c (.tail a1 (.head (lc_off lC0 o2))) hd1 ?_ ?a ?b; (case a => rfl); (case b => rfl); (case c => rfl); (case F => k_asm); (case N => k_asm); intro h9' o8' F9' N9' d8'; (try dsimp only at N9')))
  (k_with "exec Assign cons ListComp" => (k_dflt (refine Assign_WT (by k_asm) (by rfl) (by with_unfolding_all rfl) (by with_unfolding_all rfl) (by decide) (by rfl) (by decide) (by rfl) (by rfl) (by rfl) ?_)))
  (k_with "call builtin:len" => (k_dflt (refine rl_len (rt := rtP) (n := (tv rtP).length) (by k_asm) (by k_mem) (by omega) ?_)))
  (k_with "subscriptTail Name Name str int" => (refine str_item (by omega) (by omega) (by omega) ?_))
  (k_with "call builtin:sorted" => (k_dflt (refine sorted_row (by k_asm) (by k_asm) (lst_list (by k_asm) (by k_mem)) hP (by omega) ?_); intro D9 h9 rt9 zs9 n9 F9 N9 e9 p9 s9; (have hR9 := part_rev e9)))
  (k_with "subscriptTail Name Slice ref ref" => (k_dflt (refine' krv_lit (its := (tv rt9).toArray) (zs := tv rt9.reverse) ?F ?N ?l (IsPart.int _ _) (tv_reverse rt9) ?_ ?s ?t ?z; (case F => k_asm); (case N => k_asm); (case l => exact rl_isList (by k_asm) (by k_mem)); (case s => with_unfolding_all rfl); (case t => kmk_pure); (case z => (rw [List.size_toArray, tv_length, rt_sing_len e9, p9.length_eq, sizeLine_eq]; omega))); intro D10 h10 F10 N10 l10))
  (k_with "compareOp Eq ref ref" => first
    | (k_dflt (refine eq_part (lst_list (by k_asm) (by k_mem)) (rl_isList (rt := rt9) (n := n9) (by k_asm) (by k_mem)) hP e9 (sing_low hPw) (sing_low (perm_low p9 hPw)) (sort_eq p9 s9) (by first | units_room | ktr_units | omega) ?_))
    | (k_dflt (refine eq_part (lst_list (by k_asm) (by k_mem)) (rl_isList (rt := rt9.reverse) (n := 0) (by k_asm) (by k_mem)) hP hR9 (sing_low hPw) (rev_low (perm_low p9 hPw)) (sort_rev p9 s9) (by first | units_room | ktr_units | omega) ?_)))
  (k_with "pyIter ref" => first
    | (
    ((with_reducible show wpAny _ _ (pyIter (Value.ref _)) (fun it s₂ => TurnsD _ _ _ _ _ _ _ _ it s₂) _ _); k_here)
    (
    (rename Fr _ _ _ _ => lF'); (rename News _ _ _ _ => lN'); (rename IsRange _ _ _ _ _ _ _ _ => rgX);
    (with_unfolding_all refine' iter_rangeD (n := 32) (by rfl) rgX (by decide) (by rfl) lF' lN' (fun i m₁ news₁ => (∃ o1 o2 v1, news₁ = (LC + 1 + 1, o1) :: (LC + 1, o2) :: news ∧ o1.data = .cell v1 ∧ o2.data = .cell (some (.str (S l) t))) ∧ (∃ tb, m₁ (Str.ofString "best") = some (.int (bestN l true i : Int) tb)) ∧ ∀ z, z ≠ Str.ofString "best" → z ≠ Str.ofString "part" → m₁ z = if z = Str.ofString "is_rising" then some (.bool true) else none) ?h0 ?_ ?_);
    (case h0 => exact ⟨⟨_, _, _, rfl, by with_unfolding_all assumption, by with_unfolding_all assumption⟩, ⟨_, rfl⟩, fun z h1 h2 => by simp only [if_neg h1]⟩);
    (all_goals (try clear lF' lN'));
    (all_goals first
      | (rintro iI iN hI kI uI drI mI nI hiN ⟨⟨o1, o2, v1, rfl, hd1, hd2⟩, ⟨tb, hmB⟩, hmI⟩ FI oI hcI NI hap; (replace FI := fr_best FI hmB hmI); (try simp only [List.cons_append, List.nil_append] at NI); (have a1 : iI ≠ LC + 1 + 1 := Ne.symm (hap _ (.head _) _ (.head _))); (have a2 : iI ≠ LC + 1 := Ne.symm (hap _ (.tail _ (.head _)) _ (.head _))))
      | (rintro mI nI hI kI drI ⟨⟨o1, o2, v1, rfl, hd1, hd2⟩, ⟨tb, hmB⟩, hmI⟩ FI NI; (replace FI := fr_best FI hmB hmI)));
    (all_goals (try k_fold))))
    | (
    ((with_reducible show wpAny _ _ (pyIter (Value.ref _)) (SrcW _ _ _ _ _ _ _) _ _); k_here)
    (rename IsRange _ _ _ _ _ _ _ _ => rgX)
    (k_dflt (refine src_range (n := 5) (by rfl) (by k_asm) (by k_asm) rgX (by decide) (by rfl) (by rw [sizeLine_eq]; omega) ?_))
    (intro g'; (try dsimp only); refine comp_part (l := l) (mask := iN) ?_ ?_)
    (all_goals first
      | (intro iC tC ysC hiC IC oIC CC oCC DC mC hC' tkC EC hNC hmC FC' NC' offC neC; (try k_fold))
      | (intro rtP hP; (have hPl := rt_sing_len hP); (have hPn := part_len l iN 5); (have hPw := part_low (mask := iN) hlow 5 (by omega)); (try k_fold)))))
  refine wpAny_call ?_
  k_dflt (refine' code_defC ?k1 ?k2 ?k3 ?k4 ?k5 ?kA ?kF ?kK ?k6 ?k7 ?k8 ?k9 ?kB ?kD ?_ ?c2 ?c3 ?c4; (case kA => exact rfl); (case kF => exact rfl); (case kK => assumption); (case k1 => k_asm); (case k2 => k_asm); (case k3 => k_asm); (case k4 => k_asm); (case k5 => k_asm); (case k6 => k_is); (case k7 => k_is); (case k8 => ktr_room); (case k9 => exact BindsTo.of_eq rfl); (case kB => exact rfl); (case kD => decide +kernel); (case c2 => exact rfl); (case c3 => exact rfl); (case c4 => exact rfl); k_whole)
  (intro gC LC hC tkC cellsC FGC FC NC YC BC XC TC lC; (have lC0 := lC); (try k_lt lC); k_cells YC; (try simp only [List.cons_append, List.nil_append] at NC); (try dsimp only); (try k_lift BC); (have FC2 : Fr gC LC hC (fun y => if y = Str.ofString "is_rising" then some (.bool true) else none) := by with_unfolding_all exact FC); clear FC; (try k_fold))
  k_steps
  · exact bit_is _ _
  · exact LCg.CompEnd.intro FC' NC' _ (fun p hp => hp) offC trivial ⟨rfl, _, rfl⟩
  · exact LCg.CompEnd.intro FC' NC' _ (fun p hp => hp) offC trivial rfl
  · (have hG : goodB true (partN l iN 5) = true := by assumption)
    refine ⟨_, _, _, _, (LC + 1 + 1, o8') :: (LC + 1, o2) :: news, rfl, (by assumption), cb_drop (by assumption) ?hd9, two_ap hap, (fun p hp => by cases hp), ⟨o8', o2, _, rfl, d8', hd2⟩, ⟨_, (if_pos rfl).trans (congrArg (fun z : Int => some (Value.int z _)) (best_max hG hPl))⟩, ?hm9⟩
    (case hd9 => intro p hp; first | exact .tail _ (.tail _ hp) | exact .tail _ (.tail _ (.tail _ hp)))
    (case hm9 => intro z h1 h2; simp only [if_neg h1, if_neg h2])
  · (have hG : goodB true (partN l iN 5) = false := by assumption)
    refine ⟨_, _, _, _, (LC + 1 + 1, o8') :: (LC + 1, o2) :: news, rfl, (by assumption), cb_drop (by assumption) ?hd9, two_ap hap, (fun p hp => by cases hp), ⟨o8', o2, _, rfl, d8', hd2⟩, ⟨_, (if_neg (show ¬ (Str.ofString "best" = Str.ofString "part") by decide +kernel)).trans ((if_pos rfl).trans (congrArg (fun z : Nat => some (Value.int (z : Int) _)) (best_same hG).symm))⟩, ?hm9⟩
    (case hd9 => intro p hp; first | exact .tail _ (.tail _ hp) | exact .tail _ (.tail _ (.tail _ hp)))
    (case hm9 => intro z h1 h2; simp only [if_neg h1, if_neg h2])
  · refine' hret _ _ _ _ ?zf ?zn
    (case zf => k_asm)
    (case zn => exact cb_drop (by assumption) (fun p hp => .tail _ (.tail _ hp)))

theorem longest_false (w : World) (news : List (Addr × Obj)) (l : List Nat) (t : Tok) (h5 : l.length = 5) (hlow : ∀ c ∈ l, c < 128) : CtrD w 375 20 250 news [.str (S l) t, .bool false] (fun K => ∀ tr, K (.int (bestN l false 32 : Int) tr) news) := by
  intro mean mg mb dp un gd cn cs a ccd cl outer A₀ base h₀ L m s Q E B F X N T hk hdp hu hret
  k_with_none
  (have hSl := S_length l)
  (k_with "exec For Name Call cons nil" => ((rename Fr _ _ _ _ => lF'); (with_unfolding_all refine' For_D lF' ?_); k_whole))
  (k_with "storeName" => (refine' storeX_C (c := LC + 1 + 1) (news := (iI, oI) :: (LC + 1 + 1, o1) :: (LC + 1, o2) :: news) ?F ?N ?c (.tail a1 (.head (lc_off lC0 o2))) hd1 ?_ ?a ?b; (case a => rfl); (case b => rfl); (case c => rfl); (case F => k_asm); (case N => k_asm); intro h9' o8' F9' N9' d8'; (try dsimp only at N9')))
  (k_with "exec Assign cons ListComp" => (k_dflt (refine Assign_WT (by k_asm) (by rfl) (by with_unfolding_all rfl) (by with_unfolding_all rfl) (by decide) (by rfl) (by decide) (by rfl) (by rfl) (by rfl) ?_)))
  (k_with "call builtin:len" => (k_dflt (refine rl_len (rt := rtP) (n := (tv rtP).length) (by k_asm) (by k_mem) (by omega) ?_)))
  (k_with "subscriptTail Name Name str int" => (refine str_item (by omega) (by omega) (by omega) ?_))
  (k_with "call builtin:sorted" => (k_dflt (refine sorted_row (by k_asm) (by k_asm) (lst_list (by k_asm) (by k_mem)) hP (by omega) ?_); intro D9 h9 rt9 zs9 n9 F9 N9 e9 p9 s9; (have hR9 := part_rev e9)))
  (k_with "subscriptTail Name Slice ref ref" => (k_dflt (refine' krv_lit (its := (tv rt9).toArray) (zs := tv rt9.reverse) ?F ?N ?l (IsPart.int _ _) (tv_reverse rt9) ?_ ?s ?t ?z; (case F => k_asm); (case N => k_asm); (case l => exact rl_isList (by k_asm) (by k_mem)); (case s => with_unfolding_all rfl); (case t => kmk_pure); (case z => (rw [List.size_toArray, tv_length, rt_sing_len e9, p9.length_eq, sizeLine_eq]; omega))); intro D10 h10 F10 N10 l10))
  (k_with "compareOp Eq ref ref" => first
    | (k_dflt (refine eq_part (lst_list (by k_asm) (by k_mem)) (rl_isList (rt := rt9) (n := n9) (by k_asm) (by k_mem)) hP e9 (sing_low hPw) (sing_low (perm_low p9 hPw)) (sort_eq p9 s9) (by first | units_room | ktr_units | omega) ?_))
    | (k_dflt (refine eq_part (lst_list (by k_asm) (by k_mem)) (rl_isList (rt := rt9.reverse) (n := 0) (by k_asm) (by k_mem)) hP hR9 (sing_low hPw) (rev_low (perm_low p9 hPw)) (sort_rev p9 s9) (by first | units_room | ktr_units | omega) ?_)))
  (k_with "pyIter ref" => first
    | (
    ((with_reducible show wpAny _ _ (pyIter (Value.ref _)) (fun it s₂ => TurnsD _ _ _ _ _ _ _ _ it s₂) _ _); k_here)
    (
    (rename Fr _ _ _ _ => lF'); (rename News _ _ _ _ => lN'); (rename IsRange _ _ _ _ _ _ _ _ => rgX);
    (with_unfolding_all refine' iter_rangeD (n := 32) (by rfl) rgX (by decide) (by rfl) lF' lN' (fun i m₁ news₁ => (∃ o1 o2 v1, news₁ = (LC + 1 + 1, o1) :: (LC + 1, o2) :: news ∧ o1.data = .cell v1 ∧ o2.data = .cell (some (.str (S l) t))) ∧ (∃ tb, m₁ (Str.ofString "best") = some (.int (bestN l false i : Int) tb)) ∧ ∀ z, z ≠ Str.ofString "best" → z ≠ Str.ofString "part" → m₁ z = if z = Str.ofString "is_rising" then some (.bool false) else none) ?h0 ?_ ?_);
    (case h0 => exact ⟨⟨_, _, _, rfl, by with_unfolding_all assumption, by with_unfolding_all assumption⟩, ⟨_, rfl⟩, fun z h1 h2 => by simp only [if_neg h1]⟩);
    (all_goals (try clear lF' lN'));
    (all_goals first
      | (rintro iI iN hI kI uI drI mI nI hiN ⟨⟨o1, o2, v1, rfl, hd1, hd2⟩, ⟨tb, hmB⟩, hmI⟩ FI oI hcI NI hap; (replace FI := fr_best FI hmB hmI); (try simp only [List.cons_append, List.nil_append] at NI); (have a1 : iI ≠ LC + 1 + 1 := Ne.symm (hap _ (.head _) _ (.head _))); (have a2 : iI ≠ LC + 1 := Ne.symm (hap _ (.tail _ (.head _)) _ (.head _))))
      | (rintro mI nI hI kI drI ⟨⟨o1, o2, v1, rfl, hd1, hd2⟩, ⟨tb, hmB⟩, hmI⟩ FI NI; (replace FI := fr_best FI hmB hmI)));
    (all_goals (try k_fold))))
    | (
    ((with_reducible show wpAny _ _ (pyIter (Value.ref _)) (SrcW _ _ _ _ _ _ _) _ _); k_here)
    (rename IsRange _ _ _ _ _ _ _ _ => rgX)
    (k_dflt (refine src_range (n := 5) (by rfl) (by k_asm) (by k_asm) rgX (by decide) (by rfl) (by rw [sizeLine_eq]; omega) ?_))
    (intro g'; (try dsimp only); refine comp_part (l := l) (mask := iN) ?_ ?_)
    (all_goals first
      | (intro iC tC ysC hiC IC oIC CC oCC DC mC hC' tkC EC hNC hmC FC' NC' offC neC; (try k_fold))
      | (intro rtP hP; (have hPl := rt_sing_len hP); (have hPn := part_len l iN 5); (have hPw := part_low (mask := iN) hlow 5 (by omega)); (try k_fold)))))
  refine wpAny_call ?_
  k_dflt (refine' code_defC ?k1 ?k2 ?k3 ?k4 ?k5 ?kA ?kF ?kK ?k6 ?k7 ?k8 ?k9 ?kB ?kD ?_ ?c2 ?c3 ?c4; (case kA => exact rfl); (case kF => exact rfl); (case kK => assumption); (case k1 => k_asm); (case k2 => k_asm); (case k3 => k_asm); (case k4 => k_asm); (case k5 => k_asm); (case k6 => k_is); (case k7 => k_is); (case k8 => ktr_room); (case k9 => exact BindsTo.of_eq rfl); (case kB => exact rfl); (case kD => decide +kernel); (case c2 => exact rfl); (case c3 => exact rfl); (case c4 => exact rfl); k_whole)
  (intro gC LC hC tkC cellsC FGC FC NC YC BC XC TC lC; (have lC0 := lC); (try k_lt lC); k_cells YC; (try simp only [List.cons_append, List.nil_append] at NC); (try dsimp only); (try k_lift BC); (have FC2 : Fr gC LC hC (fun y => if y = Str.ofString "is_rising" then some (.bool false) else none) := by with_unfolding_all exact FC); clear FC; (try k_fold))
  k_steps
  · exact bit_is _ _
  · exact LCg.CompEnd.intro FC' NC' _ (fun p hp => hp) offC trivial ⟨rfl, _, rfl⟩
  · exact LCg.CompEnd.intro FC' NC' _ (fun p hp => hp) offC trivial rfl
  · (have hG : goodB false (partN l iN 5) = true := by assumption)
    refine ⟨_, _, _, _, (LC + 1 + 1, o8') :: (LC + 1, o2) :: news, rfl, (by assumption), cb_drop (by assumption) ?hd9, two_ap hap, (fun p hp => by cases hp), ⟨o8', o2, _, rfl, d8', hd2⟩, ⟨_, (if_pos rfl).trans (congrArg (fun z : Int => some (Value.int z _)) (best_max hG hPl))⟩, ?hm9⟩
    (case hd9 => intro p hp; first | exact .tail _ (.tail _ hp) | exact .tail _ (.tail _ (.tail _ hp)))
    (case hm9 => intro z h1 h2; simp only [if_neg h1, if_neg h2])
  · (have hG : goodB false (partN l iN 5) = false := by assumption)
    refine ⟨_, _, _, _, (LC + 1 + 1, o8') :: (LC + 1, o2) :: news, rfl, (by assumption), cb_drop (by assumption) ?hd9, two_ap hap, (fun p hp => by cases hp), ⟨o8', o2, _, rfl, d8', hd2⟩, ⟨_, (if_neg (show ¬ (Str.ofString "best" = Str.ofString "part") by decide +kernel)).trans ((if_pos rfl).trans (congrArg (fun z : Nat => some (Value.int (z : Int) _)) (best_same hG).symm))⟩, ?hm9⟩
    (case hd9 => intro p hp; first | exact .tail _ (.tail _ hp) | exact .tail _ (.tail _ (.tail _ hp)))
    (case hm9 => intro z h1 h2; simp only [if_neg h1, if_neg h2])
  · refine' hret _ _ _ _ ?zf ?zn
    (case zf => k_asm)
    (case zn => exact cb_drop (by assumption) (fun p hp => .tail _ (.tail _ hp)))

end Mine
end
section
-- PL
open PySem PySem.W PyProof.Rows
set_option maxRecDepth 100000
set_option maxHeartbeats 4000000
namespace Mine
/-- the words and what is left, after one more draw -/
def nexts (p : List Nat × List Nat) : List (List Nat × List Nat) := (List.range p.2.length).map fun a => (p.1 ++ [p.2.getD a 0], p.2.take a ++ p.2.drop (a + 1))
def placesL (l : List Nat) : List Nat := [65, 66, 67, 68, 69].map fun c => 65 + l.idxOf c
/-- the last sign, as a text -/
def last1 (r : List Nat) : List Nat := r.drop (r.length - 1)
def hitsL (told : List (List Nat)) (c : Nat) : List Nat := (List.range told.length).filter fun i => decide (last1 (told.getD i []) = [c])
structure BackS where
  rows : List (List Nat)
  told : List (List Nat)
  back : List Nat
def toldCut (told : List (List Nat)) (k : Nat) : List (List Nat) := told.set k ((told.getD k []).take ((told.getD k []).length - 1))
def backNext (b : BackS) (c : Nat) : BackS := ⟨(takeOut b.rows ((hitsL b.told c).headD 0)).1, toldCut b.told ((hitsL b.told c).headD 0), (takeOut b.rows ((hitsL b.told c).headD 0)).2 ++ b.back⟩
def backGo (b : BackS) (c : Nat) : Bool :=
  sizeOk b.rows && sizeOk b.told && decide (b.back.length ≤ 5) && (hitsL b.told c != []) && decide ((hitsL b.told c).headD 0 < b.rows.length) && decide ((hitsL b.told c).headD 0 < b.told.length) && (b.rows.all fun r => r != []) &&
    takeOutOk b.rows ((hitsL b.told c).headD 0) && decide ((takeOut b.rows ((hitsL b.told c).headD 0)).2.length ≤ 5) && sizeOk (backNext b c).rows && sizeOk (backNext b c).told && risesB (backNext b c).rows && decide ((backNext b c).rows.map List.length = ((backNext b c).told.filter (· ≠ [])).map List.length)
def backs : List Nat → BackS → BackS
  | [], b => b
  | c :: r, b => backs r (backNext b c)
def backsGo : List Nat → BackS → Bool
  | [], _ => true
  | c :: r, b => backGo b c && backsGo r (backNext b c)
def lawOk (l : List Nat) : Bool :=
  decide (l.length = 5) && (l.all fun c => decide (c < 128)) && ([65, 66, 67, 68, 69].all fun c => decide (c ∈ l)) && tabsOk l 0 [] [] && ((tabs l 0 [] []).1 != []) && sizeOk (tabs l 0 [] []).1 && sizeOk (tabs l 0 [] []).2 &&
    tabsOk (placesL l) 0 [] [] && decide (tabs (placesL l) 0 [] [] = ((tabs l 0 [] []).2, (tabs l 0 [] []).1)) &&
    decide (((tabs l 0 [] []).1.headD []).length = bestN l true 32) && decide ((tabs l 0 [] []).1.length = bestN l false 32) &&
    backsGo [69, 68, 67, 66, 65] ⟨(tabs l 0 [] []).1, (tabs l 0 [] []).2, []⟩ && decide ((backs [69, 68, 67, 66, 65] ⟨(tabs l 0 [] []).1, (tabs l 0 [] []).2, []⟩).back = l)
def reach0 : List (List Nat × List Nat) := [([], [65, 66, 67, 68, 69])]
def reach1 : List (List Nat × List Nat) := [([65], [66, 67, 68, 69]), ([66], [65, 67, 68, 69]), ([67], [65, 66, 68, 69]), ([68], [65, 66, 67, 69]), ([69], [65, 66, 67, 68])]
def reach2 : List (List Nat × List Nat) := [([65, 66], [67, 68, 69]), ([65, 67], [66, 68, 69]), ([65, 68], [66, 67, 69]), ([65, 69], [66, 67, 68]), ([66, 65], [67, 68, 69]), ([66, 67], [65, 68, 69]), ([66, 68], [65, 67, 69]), ([66, 69], [65, 67, 68]), ([67, 65], [66, 68, 69]), ([67, 66], [65, 68, 69]), ([67, 68], [65, 66, 69]), ([67, 69], [65, 66, 68]), ([68, 65], [66, 67, 69]), ([68, 66], [65, 67, 69]), ([68, 67], [65, 66, 69]), ([68, 69], [65, 66, 67]), ([69, 65], [66, 67, 68]), ([69, 66], [65, 67, 68]), ([69, 67], [65, 66, 68]), ([69, 68], [65, 66, 67])]
def reach3 : List (List Nat × List Nat) := [([65, 66, 67], [68, 69]), ([65, 66, 68], [67, 69]), ([65, 66, 69], [67, 68]), ([65, 67, 66], [68, 69]), ([65, 67, 68], [66, 69]), ([65, 67, 69], [66, 68]), ([65, 68, 66], [67, 69]), ([65, 68, 67], [66, 69]), ([65, 68, 69], [66, 67]), ([65, 69, 66], [67, 68]), ([65, 69, 67], [66, 68]), ([65, 69, 68], [66, 67]), ([66, 65, 67], [68, 69]), ([66, 65, 68], [67, 69]), ([66, 65, 69], [67, 68]), ([66, 67, 65], [68, 69]), ([66, 67, 68], [65, 69]), ([66, 67, 69], [65, 68]), ([66, 68, 65], [67, 69]), ([66, 68, 67], [65, 69]), ([66, 68, 69], [65, 67]), ([66, 69, 65], [67, 68]), ([66, 69, 67], [65, 68]), ([66, 69, 68], [65, 67]), ([67, 65, 66], [68, 69]), ([67, 65, 68], [66, 69]), ([67, 65, 69], [66, 68]), ([67, 66, 65], [68, 69]), ([67, 66, 68], [65, 69]), ([67, 66, 69], [65, 68]), ([67, 68, 65], [66, 69]), ([67, 68, 66], [65, 69]), ([67, 68, 69], [65, 66]), ([67, 69, 65], [66, 68]), ([67, 69, 66], [65, 68]), ([67, 69, 68], [65, 66]), ([68, 65, 66], [67, 69]), ([68, 65, 67], [66, 69]), ([68, 65, 69], [66, 67]), ([68, 66, 65], [67, 69]), ([68, 66, 67], [65, 69]), ([68, 66, 69], [65, 67]), ([68, 67, 65], [66, 69]), ([68, 67, 66], [65, 69]), ([68, 67, 69], [65, 66]), ([68, 69, 65], [66, 67]), ([68, 69, 66], [65, 67]), ([68, 69, 67], [65, 66]), ([69, 65, 66], [67, 68]), ([69, 65, 67], [66, 68]), ([69, 65, 68], [66, 67]), ([69, 66, 65], [67, 68]), ([69, 66, 67], [65, 68]), ([69, 66, 68], [65, 67]), ([69, 67, 65], [66, 68]), ([69, 67, 66], [65, 68]), ([69, 67, 68], [65, 66]), ([69, 68, 65], [66, 67]), ([69, 68, 66], [65, 67]), ([69, 68, 67], [65, 66])]
def reach4 : List (List Nat × List Nat) := [([65, 66, 67, 68], [69]), ([65, 66, 67, 69], [68]), ([65, 66, 68, 67], [69]), ([65, 66, 68, 69], [67]), ([65, 66, 69, 67], [68]), ([65, 66, 69, 68], [67]), ([65, 67, 66, 68], [69]), ([65, 67, 66, 69], [68]), ([65, 67, 68, 66], [69]), ([65, 67, 68, 69], [66]), ([65, 67, 69, 66], [68]), ([65, 67, 69, 68], [66]), ([65, 68, 66, 67], [69]), ([65, 68, 66, 69], [67]), ([65, 68, 67, 66], [69]), ([65, 68, 67, 69], [66]), ([65, 68, 69, 66], [67]), ([65, 68, 69, 67], [66]), ([65, 69, 66, 67], [68]), ([65, 69, 66, 68], [67]), ([65, 69, 67, 66], [68]), ([65, 69, 67, 68], [66]), ([65, 69, 68, 66], [67]), ([65, 69, 68, 67], [66]), ([66, 65, 67, 68], [69]), ([66, 65, 67, 69], [68]), ([66, 65, 68, 67], [69]), ([66, 65, 68, 69], [67]), ([66, 65, 69, 67], [68]), ([66, 65, 69, 68], [67]), ([66, 67, 65, 68], [69]), ([66, 67, 65, 69], [68]), ([66, 67, 68, 65], [69]), ([66, 67, 68, 69], [65]), ([66, 67, 69, 65], [68]), ([66, 67, 69, 68], [65]), ([66, 68, 65, 67], [69]), ([66, 68, 65, 69], [67]), ([66, 68, 67, 65], [69]), ([66, 68, 67, 69], [65]), ([66, 68, 69, 65], [67]), ([66, 68, 69, 67], [65]), ([66, 69, 65, 67], [68]), ([66, 69, 65, 68], [67]), ([66, 69, 67, 65], [68]), ([66, 69, 67, 68], [65]), ([66, 69, 68, 65], [67]), ([66, 69, 68, 67], [65]), ([67, 65, 66, 68], [69]), ([67, 65, 66, 69], [68]), ([67, 65, 68, 66], [69]), ([67, 65, 68, 69], [66]), ([67, 65, 69, 66], [68]), ([67, 65, 69, 68], [66]), ([67, 66, 65, 68], [69]), ([67, 66, 65, 69], [68]), ([67, 66, 68, 65], [69]), ([67, 66, 68, 69], [65]), ([67, 66, 69, 65], [68]), ([67, 66, 69, 68], [65]), ([67, 68, 65, 66], [69]), ([67, 68, 65, 69], [66]), ([67, 68, 66, 65], [69]), ([67, 68, 66, 69], [65]), ([67, 68, 69, 65], [66]), ([67, 68, 69, 66], [65]), ([67, 69, 65, 66], [68]), ([67, 69, 65, 68], [66]), ([67, 69, 66, 65], [68]), ([67, 69, 66, 68], [65]), ([67, 69, 68, 65], [66]), ([67, 69, 68, 66], [65]), ([68, 65, 66, 67], [69]), ([68, 65, 66, 69], [67]), ([68, 65, 67, 66], [69]), ([68, 65, 67, 69], [66]), ([68, 65, 69, 66], [67]), ([68, 65, 69, 67], [66]), ([68, 66, 65, 67], [69]), ([68, 66, 65, 69], [67]), ([68, 66, 67, 65], [69]), ([68, 66, 67, 69], [65]), ([68, 66, 69, 65], [67]), ([68, 66, 69, 67], [65]), ([68, 67, 65, 66], [69]), ([68, 67, 65, 69], [66]), ([68, 67, 66, 65], [69]), ([68, 67, 66, 69], [65]), ([68, 67, 69, 65], [66]), ([68, 67, 69, 66], [65]), ([68, 69, 65, 66], [67]), ([68, 69, 65, 67], [66]), ([68, 69, 66, 65], [67]), ([68, 69, 66, 67], [65]), ([68, 69, 67, 65], [66]), ([68, 69, 67, 66], [65]), ([69, 65, 66, 67], [68]), ([69, 65, 66, 68], [67]), ([69, 65, 67, 66], [68]), ([69, 65, 67, 68], [66]), ([69, 65, 68, 66], [67]), ([69, 65, 68, 67], [66]), ([69, 66, 65, 67], [68]), ([69, 66, 65, 68], [67]), ([69, 66, 67, 65], [68]), ([69, 66, 67, 68], [65]), ([69, 66, 68, 65], [67]), ([69, 66, 68, 67], [65]), ([69, 67, 65, 66], [68]), ([69, 67, 65, 68], [66]), ([69, 67, 66, 65], [68]), ([69, 67, 66, 68], [65]), ([69, 67, 68, 65], [66]), ([69, 67, 68, 66], [65]), ([69, 68, 65, 66], [67]), ([69, 68, 65, 67], [66]), ([69, 68, 66, 65], [67]), ([69, 68, 66, 67], [65]), ([69, 68, 67, 65], [66]), ([69, 68, 67, 66], [65])]
def words0 : List (List Nat) := [[65, 66, 67, 68, 69], [65, 66, 67, 69, 68], [65, 66, 68, 67, 69], [65, 66, 68, 69, 67], [65, 66, 69, 67, 68], [65, 66, 69, 68, 67], [65, 67, 66, 68, 69], [65, 67, 66, 69, 68], [65, 67, 68, 66, 69], [65, 67, 68, 69, 66], [65, 67, 69, 66, 68], [65, 67, 69, 68, 66], [65, 68, 66, 67, 69], [65, 68, 66, 69, 67], [65, 68, 67, 66, 69], [65, 68, 67, 69, 66], [65, 68, 69, 66, 67], [65, 68, 69, 67, 66], [65, 69, 66, 67, 68], [65, 69, 66, 68, 67], [65, 69, 67, 66, 68], [65, 69, 67, 68, 66], [65, 69, 68, 66, 67], [65, 69, 68, 67, 66]]
def words1 : List (List Nat) := [[66, 65, 67, 68, 69], [66, 65, 67, 69, 68], [66, 65, 68, 67, 69], [66, 65, 68, 69, 67], [66, 65, 69, 67, 68], [66, 65, 69, 68, 67], [66, 67, 65, 68, 69], [66, 67, 65, 69, 68], [66, 67, 68, 65, 69], [66, 67, 68, 69, 65], [66, 67, 69, 65, 68], [66, 67, 69, 68, 65], [66, 68, 65, 67, 69], [66, 68, 65, 69, 67], [66, 68, 67, 65, 69], [66, 68, 67, 69, 65], [66, 68, 69, 65, 67], [66, 68, 69, 67, 65], [66, 69, 65, 67, 68], [66, 69, 65, 68, 67], [66, 69, 67, 65, 68], [66, 69, 67, 68, 65], [66, 69, 68, 65, 67], [66, 69, 68, 67, 65]]
def words2 : List (List Nat) := [[67, 65, 66, 68, 69], [67, 65, 66, 69, 68], [67, 65, 68, 66, 69], [67, 65, 68, 69, 66], [67, 65, 69, 66, 68], [67, 65, 69, 68, 66], [67, 66, 65, 68, 69], [67, 66, 65, 69, 68], [67, 66, 68, 65, 69], [67, 66, 68, 69, 65], [67, 66, 69, 65, 68], [67, 66, 69, 68, 65], [67, 68, 65, 66, 69], [67, 68, 65, 69, 66], [67, 68, 66, 65, 69], [67, 68, 66, 69, 65], [67, 68, 69, 65, 66], [67, 68, 69, 66, 65], [67, 69, 65, 66, 68], [67, 69, 65, 68, 66], [67, 69, 66, 65, 68], [67, 69, 66, 68, 65], [67, 69, 68, 65, 66], [67, 69, 68, 66, 65]]
def words3 : List (List Nat) := [[68, 65, 66, 67, 69], [68, 65, 66, 69, 67], [68, 65, 67, 66, 69], [68, 65, 67, 69, 66], [68, 65, 69, 66, 67], [68, 65, 69, 67, 66], [68, 66, 65, 67, 69], [68, 66, 65, 69, 67], [68, 66, 67, 65, 69], [68, 66, 67, 69, 65], [68, 66, 69, 65, 67], [68, 66, 69, 67, 65], [68, 67, 65, 66, 69], [68, 67, 65, 69, 66], [68, 67, 66, 65, 69], [68, 67, 66, 69, 65], [68, 67, 69, 65, 66], [68, 67, 69, 66, 65], [68, 69, 65, 66, 67], [68, 69, 65, 67, 66], [68, 69, 66, 65, 67], [68, 69, 66, 67, 65], [68, 69, 67, 65, 66], [68, 69, 67, 66, 65]]
def words4 : List (List Nat) := [[69, 65, 66, 67, 68], [69, 65, 66, 68, 67], [69, 65, 67, 66, 68], [69, 65, 67, 68, 66], [69, 65, 68, 66, 67], [69, 65, 68, 67, 66], [69, 66, 65, 67, 68], [69, 66, 65, 68, 67], [69, 66, 67, 65, 68], [69, 66, 67, 68, 65], [69, 66, 68, 65, 67], [69, 66, 68, 67, 65], [69, 67, 65, 66, 68], [69, 67, 65, 68, 66], [69, 67, 66, 65, 68], [69, 67, 66, 68, 65], [69, 67, 68, 65, 66], [69, 67, 68, 66, 65], [69, 68, 65, 66, 67], [69, 68, 65, 67, 66], [69, 68, 66, 65, 67], [69, 68, 66, 67, 65], [69, 68, 67, 65, 66], [69, 68, 67, 66, 65]]
def reachN : Nat → List (List Nat × List Nat)
  | 0 => reach0
  | 1 => reach1
  | 2 => reach2
  | 3 => reach3
  | 4 => reach4
  | _ => (words0 ++ (words1 ++ (words2 ++ (words3 ++ words4)))).map fun w => (w, [])
theorem reach_0 : reach0.flatMap nexts = reachN 1 := by decide +kernel
theorem reach_1 : reach1.flatMap nexts = reachN 2 := by decide +kernel
theorem reach_2 : reach2.flatMap nexts = reachN 3 := by decide +kernel
theorem reach_3 : reach3.flatMap nexts = reachN 4 := by decide +kernel
theorem reach_4 : reach4.flatMap nexts = reachN 5 := by decide +kernel
theorem words_0 : words0.all lawOk = true := by decide +kernel
theorem words_1 : words1.all lawOk = true := by decide +kernel
theorem words_2 : words2.all lawOk = true := by decide +kernel
theorem words_3 : words3.all lawOk = true := by decide +kernel
theorem words_4 : words4.all lawOk = true := by decide +kernel
theorem long_0 : (reach0.all fun p => decide (p.1.length = 0) && decide (p.2.length = 5)) = true := by decide +kernel
theorem long_1 : (reach1.all fun p => decide (p.1.length = 1) && decide (p.2.length = 4)) = true := by decide +kernel
theorem long_2 : (reach2.all fun p => decide (p.1.length = 2) && decide (p.2.length = 3)) = true := by decide +kernel
theorem long_3 : (reach3.all fun p => decide (p.1.length = 3) && decide (p.2.length = 2)) = true := by decide +kernel
theorem long_4 : (reach4.all fun p => decide (p.1.length = 4) && decide (p.2.length = 1)) = true := by decide +kernel
theorem reach_next {n : Nat} (h : n < 5) : (reachN n).flatMap nexts = reachN (n + 1) := by
  match n, h with
  | 0, _ => exact reach_0
  | 1, _ => exact reach_1
  | 2, _ => exact reach_2
  | 3, _ => exact reach_3
  | 4, _ => exact reach_4
theorem reach_long {n : Nat} (h : n < 5) {w l : List Nat} (hm : (w, l) ∈ reachN n) : w.length = n ∧ l.length = 5 - n := by
  have e : (((reachN n).all fun p => decide (p.1.length = n) && decide (p.2.length = 5 - n)) = true) := by
    match n, h with
    | 0, _ => exact long_0
    | 1, _ => exact long_1
    | 2, _ => exact long_2
    | 3, _ => exact long_3
    | 4, _ => exact long_4
  have q := List.all_eq_true.mp e _ hm
  rw [Bool.and_eq_true] at q
  exact ⟨of_decide_eq_true q.1, of_decide_eq_true q.2⟩
theorem reach_step {n : Nat} (h : n < 5) {w l : List Nat} (hm : (w, l) ∈ reachN n) {a : Nat} (ha : a < 5 - n) : (w ++ [l.getD a 0], l.take a ++ l.drop (a + 1)) ∈ reachN (n + 1) := by
  rw [← reach_next h]
  refine List.mem_flatMap.mpr ⟨_, hm, ?_⟩
  exact List.mem_map.mpr ⟨a, List.mem_range.mpr (by rw [(reach_long h hm).2]; exact ha), rfl⟩
theorem reach_ok {w l : List Nat} (hm : (w, l) ∈ reachN 5) : lawOk w = true := by
  obtain ⟨v, hv, e⟩ := List.mem_map.mp hm
  cases e
  rcases List.mem_append.mp hv with q | q
  · exact List.all_eq_true.mp words_0 _ q
  rcases List.mem_append.mp q with q | q
  · exact List.all_eq_true.mp words_1 _ q
  rcases List.mem_append.mp q with q | q
  · exact List.all_eq_true.mp words_2 _ q
  rcases List.mem_append.mp q with q | q
  · exact List.all_eq_true.mp words_3 _ q
  · exact List.all_eq_true.mp words_4 _ q
end Mine
end
section
-- Df
open PySem PySem.W PyProof.Rows PySem.Spec PySem.Calls PyProof
set_option maxRecDepth 100000
set_option maxHeartbeats 4000000
namespace Mine
section
variable {prog : Program} {w : World} {A : Around} {E : Value → Shared → Prop} {s : Shared} {env : Env} {h₀ : Heap} {body : List Stmt} {Q : Flow → Shared → Prop}
/-- the loop over a tuple of the ledger -/
theorem iter_tupleD {ax : Addr} {its : Array Value} {k : Nat} {nm : Str} {ps : Pos} {m₀ : Str → Option Value} {news : List (Addr × Obj)} (hh : A.handled = none) (F : Fr h₀ env.locals s.heap m₀) (N : News h₀ env.locals s.heap news) (hm : (ax, tupObj its k) ∈ news)
    (Inv : Nat → (Str → Option Value) → List (Addr × Obj) → Prop) (h0 : Inv 0 m₀ news)
    (turn : ∀ I i v h tk dr m₁ news₁, i < its.size → its[i]? = some v → Inv i m₁ news₁ → (ax, tupObj its k) ∈ news₁ → Fr h₀ env.locals h m₁ → AllObj [(I, "tuple_iterator")] (fun ws => News h₀ env.locals h (ws ++ news₁) → (∀ p ∈ news₁, ∀ q ∈ ws, p.1 ≠ q.1) →
      wpAny (model prog w) A (assign (.Name nm ps) env v) (fun _ s₂ => wpAny (model prog w) A (execs body env) (PostD h₀ env.locals { s with heap := h, toks := tk, drawn := dr } ws [(ax, tupObj its k)] (Inv (i + 1)) Q) E s₂) E { s with heap := h, toks := tk, drawn := dr }))
    (done : ∀ m₁ news₁ h tk dr, Inv its.size m₁ news₁ → Fr h₀ env.locals h m₁ → News h₀ env.locals h news₁ → Q .next { s with heap := h, toks := tk, drawn := dr }) :
    wpAny (model prog w) A (pyIter (.ref ax)) (fun it s₂ => TurnsD prog w A env (.Name nm ps) body Q E it s₂) E s := by
  have hax := N _ hm
  have ht : s.heap.IsTuple ax its := ⟨_, hax.1, rfl, k, rfl⟩
  have hlt : ax < s.heap.objs.size := Heap.lt_size hax.1
  have hLs : env.locals < s.heap.objs.size := F.ns.lt
  refine wpAny_pyIter_tuple ht ?_
  refine core_D (tk0 := s.toks) (ws := [(s.heap.objs.size, "tuple_iterator")]) (keep := [(ax, tupObj its k)]) (fun i v _ => its[i]? = some v) (KTurns.ofWalks (Walks.tuple (prog := prog) (w := w) hh s.heap.objs.size ax (Nat.ne_of_lt hlt) its) fun i v s Q E st q => wpAny_pure q) (fun i v h _ p => p) (fun i h st => ?_) (fun b hb => ?_) (fun b hb => by simpa using hb) (fun b hb => ?_) ?_ (fun p hp hI => ?_) ?_ (F.push _) (fun p hp => ⟨Heap.get?_push_of_some _ (N p hp).1, (N p hp).2⟩) (fun p hp => by rw [List.mem_singleton.mp hp]; exact hm) Inv h0 ?_ done
  · obtain ⟨o, e, hc, _⟩ := st.1
    exact ⟨[(s.heap.objs.size, o)], ⟨⟨rfl, hc⟩, trivial⟩, fun p hp => by rw [List.mem_singleton.mp hp]; exact e⟩
  · have hb' : b = s.heap.objs.size := by simpa using hb
    rw [hb']; exact ⟨List.mem_cons_self .., next_is_new F⟩
  · have hb' : b = s.heap.objs.size ∨ b = ax := by simpa using hb
    rcases hb' with rfl | rfl
    · exact .inl (by simp)
    · exact .inr ⟨_, List.mem_singleton.mpr rfl⟩
  · intro hI
    have hb' : env.locals = s.heap.objs.size ∨ env.locals = ax := by simpa using hI
    rcases hb' with e | e
    · exact Nat.ne_of_lt hLs e
    · exact hax.2.1 e.symm
  · have e : p.1 = s.heap.objs.size := by simpa using hI
    exact absurd (news_lt N hp) (e ▸ Nat.lt_irrefl _)
  · exact ⟨⟨_, Heap.get?_push_size _ rfl, rfl, rfl⟩, ht.push _⟩
  · rintro i v h tk dr m₁ news₁ hi hv hI hk F₁
    exact turn _ i v h tk dr m₁ news₁ hi hv hI (hk _ (List.mem_singleton.mpr rfl)) F₁
end
section
variable {prog : Program} {w : World} {A : Around} {E : Value → Shared → Prop} {s : Shared} {h₀ : Heap} {L : Addr} {m : Str → Option Value}
/-- a text as a source of a comprehension -/
theorem src_strA {Rest : Shared → (List (Addr × Obj) → Prop) → (Nat → Value → Prop) → Nat → List (Addr × Obj) → Prop} {x : Str} {t : Tok} {news : List (Addr × Obj)}
    (hh : A.handled = none) (F : Fr h₀ L s.heap m) (N : News h₀ L s.heap news) (ha : x.cps.all (· < 128) = true) (hsz : x.cps.size ≤ sizeLine)
    (h : ∀ g, Rest { s with heap := g } (fun _ => True) (SignAt x) x.cps.size news) :
    wpAny (model prog w) A (pyIter (.str x t)) (SrcW prog w A h₀ L m Rest) E s := by
  refine wpAny_pyIter_strU ?_
  have e : strIterType x = "str_ascii_iterator" := by simp [strIterType, ha]
  have up : ∀ b o, s.heap.get? b = some o → (s.heap.push { cls := .type (strIterType x), data := .fields #[.str x t, .int 0 0] }).get? b = some o := fun b o e => Heap.get?_push_of_some _ e
  refine ⟨s.heap.objs.size, [s.heap.objs.size], x.cps.size, _, _, fun _ => True, news, rfl, Walks.strAscii hh _ x t, hsz, fun i h st => by obtain ⟨o, ho, _⟩ := st; exact ⟨o, ho⟩,
    fun i h h' o nw st e e' _ _ _ => by obtain ⟨o', q, r⟩ := st; rw [e] at q; cases q; exact ⟨o, e', r⟩, ⟨_, Heap.get?_push_size _ rfl, by rw [e], rfl⟩, fun b hb => ?_,
    F.keeps up, N.grown up, Nat.ne_of_lt F.ns.lt, next_is_new F, fun p hp => Nat.ne_of_lt (Heap.lt_size (N p hp).1), trivial, h _⟩
  show b < (s.heap.push _).objs.size
  rw [Heap.size_push, List.mem_singleton.mp hb]; exact Nat.lt_succ_self _
end
end Mine
end
section
-- Ce
open PySem PySem.W PyProof.Rows PySem.Spec PySem.Calls PyProof PyProof.Rows.LCg
set_option maxRecDepth 100000
set_option maxHeartbeats 4000000
namespace Mine
section
variable {prog : Program} {w : World} {A : Around} {E : Value → Shared → Prop} {s : Shared} {h₀ : Heap} {L : Addr} {m : Str → Option Value} {env : Env}
/-- the loop of a comprehension, with tests and with a target that is taken apart -/
theorem compLoop_gen {R : Result → Shared → Prop} {elt target iter : PySem.Expr} {ifs : List PySem.Expr} {scope : Scope} {pos : Pos} {it acc : Value} {cenv : Env} (I : Nat → Shared → Prop)
    (turn : ∀ n s, I n s → wpAny (model prog w) A (pyNext it) (fun r s₁ => match r with
      | none => R (.ok .next) s₁
      | some v => wpAny (model prog w) A (letOwnedTupleGo target it v) (fun _ s₁' => wpAny (model prog w) A (assign target cenv v) (fun _ s₂ =>
          wpAny (model prog w) A (forIn ifs true fun c r => if r = true then do let ok ← isTrue c cenv (eval c cenv); pure (ForInStep.yield ok) else pure (ForInStep.yield r)) (fun ok s₃ =>
            if ok = true then wpAny (model prog w) A (eval elt cenv) (fun x s₄ =>
              wpAny (model prog w) A (call (.builtin "list.append") [acc, x]) (fun _ s₅ => ∃ m, m < n ∧ I m s₅) (notedBy (model prog w) A cenv fun e s' => R (.error e) s') s₄) (notedBy (model prog w) A cenv fun e s' => R (.error e) s') s₃
            else ∃ m, m < n ∧ I m s₃) (notedBy (model prog w) A cenv fun e s' => R (.error e) s') s₂) (notedBy (model prog w) A cenv fun e s' => R (.error e) s') s₁') (notedBy (model prog w) A cenv fun e s' => R (.error e) s') s₁) (notedBy (model prog w) A cenv fun e s' => R (.error e) s') s)
    (n : Nat) (h : I n s) : codeAny (model prog w) A (.compLoop (.ListComp elt [⟨target, iter, ifs, 0⟩] scope pos) 0 it acc cenv) R s := by
  refine codeAny_loop rfl I (fun n s hI => ?_) n h
  show wpAny _ A ((compTurn (.ListComp elt [⟨target, iter, ifs, 0⟩] scope pos) 0 it acc cenv).onRaise (fun x => do noteFrame x cenv; theTreesLotGoes x)) _ _ s
  refine wpAny_noted ?_
  rw [compTurn_list]
  refine wpAny_bind (wpAny_standAt (wpAny_bind (wpAny_mono (turn n s hI) (fun r s₁ h₁ => ?_) fun _ _ q => q)))
  cases r with
  | none => exact wpAny_pure h₁
  | some v =>
    refine wpAny_bind (wpAny_mono h₁ (fun _ s₁' h₁' => ?_) fun _ _ q => q)
    refine wpAny_bind (wpAny_mono h₁' (fun _ s₂ h₂ => wpAny_bind (wpAny_mono h₂ (fun ok s₃ h₃ => ?_) fun _ _ q => q)) fun _ _ q => q)
    cases ok with
    | false => exact wpAny_pure ⟨rfl, h₃⟩
    | true => exact wpAny_bind (wpAny_bind (wpAny_mono h₃ (fun x s₄ h₄ => wpAny_bind (wpAny_mono h₄ (fun _ s₅ h₅ => wpAny_pure (wpAny_pure ⟨rfl, h₅⟩)) fun _ _ q => q)) fun _ _ q => q))
/-- an enumerate over a list of the ledger, ahead of the turns of a comprehension -/
def SrcE (progu : Program) (w : World) (A : Around) (h₀ : Heap) (L : Addr) (m : Str → Option Value) (Rest : Shared → Addr → List Value → Nat → List (Addr × Obj) → Prop) (it : Value) (s₂ : Shared) : Prop :=
  ∃ (e i l : Addr) (vs : List Value) (k : Nat) (news : List (Addr × Obj)), it = .ref e ∧ ((∃ old, IsEnum s₂.heap e i ((0 : Nat) : Int) old) ∧ s₂.heap.IsListIter i l 0 ∧ s₂.heap.IsList l vs.toArray) ∧ (l, listOf vs.toArray k) ∈ news ∧ vs.length ≤ sizeLine ∧
    Fr h₀ L s₂.heap m ∧ News h₀ L s₂.heap news ∧ e ≠ i ∧ e ≠ L ∧ i ≠ L ∧ h₀.get? e = none ∧ h₀.get? i = none ∧ (∀ p ∈ news, p.1 ≠ e ∧ p.1 ≠ i) ∧ e < s₂.heap.objs.size ∧ i < s₂.heap.objs.size ∧ A.handled = none ∧ Rest s₂ l vs k news
/-- what the turns are to show -/
def TurnE (prog : Program) (w : World) (A : Around) (h₀ : Heap) (L : Addr) (m : Str → Option Value) (env : Env) (ct elt : PySem.Expr) (x x₂ : Str) (scope : Scope) (cl : List (Str × Addr)) (s : Shared) (vs : List Value) (news : List (Addr × Obj)) (Inv : Nat → List Value → Prop) : Prop :=
  ∀ (j : Nat) (ys : List Value) (v : Value) (t : Tok), vs[j]? = some v → Inv j ys → ∀ I oI C oC D m₂ i oi h tk (E' : Value → Shared → Prop), NsObj oC m₂ → m₂ x = some (.int (j : Int) t) → m₂ x₂ = some v → Fr h₀ L h m → News h₀ L h ((I, oI) :: (C, oC) :: (D, lst ys) :: (i, oi) :: news) → Off3 I C D ((i, oi) :: news) → ((@Ne Nat I C) ∧ (@Ne Nat I D) ∧ (@Ne Nat C D)) →
    wpAny (model prog w) A (isTrue ct (compEnvC scope cl C env) (eval ct (compEnvC scope cl C env))) (fun ok s' => if ok = true then
        wpAny (model prog w) A (eval elt (compEnvC scope cl C env)) (CompEnd h₀ L m { s with heap := h, toks := tk } I oI C oC D (lst ys) (fun nw => nw = (i, oi) :: news) (fun y _ => Inv (j + 1) (ys ++ [y]))) E' s'
      else CompEnd h₀ L m { s with heap := h, toks := tk } I oI C oC D (lst ys) (fun nw => nw = (i, oi) :: news) (fun _ _ => Inv (j + 1) ys) Value.none s') E' { s with heap := h, toks := tk }
theorem fr_but2 {h h' : Heap} {a b : Addr} (F : Fr h₀ L h m) (hk : ∀ c o, c ∉ [a, b] → h.get? c = some o → h'.get? c = some o) (ha : a ≠ L) (hb : b ≠ L) (ha0 : h₀.get? a = none) (hb0 : h₀.get? b = none) : Fr h₀ L h' m :=
  ⟨F.ns.at' fun o e => hk L o (by simp; exact ⟨Ne.symm ha, Ne.symm hb⟩) e, fun c o e => hk c o (fun hm => by
    have hm' : c = a ∨ c = b := by simpa using hm
    rcases hm' with rfl | rfl
    · rw [ha0] at e; cases e
    · rw [hb0] at e; cases e) (F.keep c o e), F.above⟩
theorem news_but2 {h h' : Heap} {a b : Addr} {news : List (Addr × Obj)} (N : News h₀ L h news) (hk : ∀ c o, c ∉ [a, b] → h.get? c = some o → h'.get? c = some o) (off : ∀ p ∈ news, p.1 ≠ a ∧ p.1 ≠ b) : News h₀ L h' news :=
  fun p hp => ⟨hk _ _ (by simp; exact off p hp) (N p hp).1, (N p hp).2⟩
theorem block_E {ct elt iter : PySem.Expr} {x x₂ : Str} {px px₂ tp : Pos} {tkn} {scope : Scope} {cl : List (Str × Addr)} {pos : Pos} {s₂ : Shared} {e i l : Addr} {vs : List Value} {k : Nat} {news : List (Addr × Obj)} {RR : Value → Addr → Result → Shared → Prop} (Inv : Nat → List Value → Prop)
    (hh : A.handled = none) (hcell : ∀ y ∈ scope.names, y.2 ≠ .cell) (hkind : scope.kind = .function) (hx : scope.names.lookup x = some .local) (hx₂ : scope.names.lookup x₂ = some .local) (hxx : x ≠ x₂)
    (hst : (∃ old, IsEnum s₂.heap e i ((0 : Nat) : Int) old) ∧ s₂.heap.IsListIter i l 0 ∧ s₂.heap.IsList l vs.toArray) (hm : (l, listOf vs.toArray k) ∈ news) (hsz : vs.length ≤ sizeLine)
    (F : Fr h₀ L s₂.heap m) (N : News h₀ L s₂.heap news) (hei : e ≠ i) (heL : e ≠ L) (hiL : i ≠ L) (he0 : h₀.get? e = none) (hi0 : h₀.get? i = none) (off : ∀ p ∈ news, p.1 ≠ e ∧ p.1 ≠ i) (helt : e < s₂.heap.objs.size) (hilt : i < s₂.heap.objs.size)
    (h0 : Inv 0 []) (R : TurnE prog w A h₀ L m env ct elt x x₂ scope cl s₂ vs news Inv)
    (hRR : ∀ D C h tk m' ys, Fr h₀ L h m → News h₀ L h ((D, lst ys) :: news) → Off1 D news → h.Ns C m' → h₀.get? C = none → h₀.get? D = none → C ≠ L → D ≠ L → C ≠ D → (∀ p ∈ news, p.1 ≠ C) → Inv vs.length ys → RR (.ref D) C (.ok .next) { s₂ with heap := h, toks := tk }) :
    wpAny (model prog w) A (newList []) (fun acc s₃ => wpAny (model prog w) A (newFunctionEnv scope env.globals cl [] env.qual none .none (some env)) (fun cenv s₄ =>
      codeAny (model prog w) A (.compStart (.ListComp elt [⟨.Tuple [.Name x px, .Name x₂ px₂] tkn tp, iter, [ct], 0⟩] scope pos) 0 (.ref e) acc { cenv with scope := relabel scope env }) (RR acc cenv.locals) s₄) E s₃) E s₂ := by
  have hle : l ≠ e := (off _ hm).1
  have hli : l ≠ i := (off _ hm).2
  have U := (WalksT.enumerate (prog := prog) (w := w) hh e i l hei hle hli vs.toArray).toU
  refine wpAny_newObj_type (wpAny_newFunctionEnv hcell (by intro y hy; simp at hy) (fun h₁ hns₁ hsb₁ => ?_) hkind)
  dsimp only at hns₁ hsb₁ ⊢
  generalize hH2 : s₂.heap.push { cls := .type "list", dict := none, data := .seq ([] : List Value).toArray } = H2 at hns₁ hsb₁ ⊢
  have hC : H2.objs.size = s₂.heap.objs.size + 1 := by rw [← hH2, Heap.size_push]
  generalize hDd : s₂.heap.objs.size = D at *
  have hDC : D ≠ H2.objs.size := by rw [hC]; exact Nat.ne_of_lt (Nat.lt_succ_self _)
  have below : ∀ b, b < D → b ≠ H2.objs.size ∧ b ≠ D := fun b hb => ⟨by rw [hC]; exact Nat.ne_of_lt (Nat.lt_succ_of_lt hb), Nat.ne_of_lt hb⟩
  have hlt : ∀ {b o}, s₂.heap.get? b = some o → b < D := fun hb => hDd ▸ Heap.lt_size hb
  have old : ∀ b o, s₂.heap.get? b = some o → h₁.get? b = some o := fun b o q => hsb₁.extBut b o (below b (hlt q)).1 (Heap.get?_push_of_some _ (hH2 ▸ Heap.get?_push_of_some _ q))
  have hacc0 : H2.get? D = some (lst []) := by rw [← hH2, ← hDd]; exact Heap.get?_push_size _ rfl
  have hacc : h₁.get? D = some (lst []) := hsb₁.extBut _ _ hDC (Heap.get?_push_of_some _ hacc0)
  have fresh₀ : ∀ a, D ≤ a → h₀.get? a = none := fun a ha => by
    cases q : h₀.get? a with
    | none => rfl
    | some o' => exact absurd (hlt (F.keep a o' q)) (Nat.not_lt.mpr ha)
  have hD₀ : h₀.get? D = none := fresh₀ _ (Nat.le_refl _)
  have hC₀ : h₀.get? H2.objs.size = none := fresh₀ _ (by rw [hC]; exact Nat.le_succ _)
  have hLlt : L < D := hDd ▸ F.ns.lt
  have hDL : D ≠ L := Ne.symm (below L hLlt).2
  have hCL : H2.objs.size ≠ L := Ne.symm (below L hLlt).1
  have hCe := (below e helt).1
  have hDe := (below e helt).2
  have hCi := (below i hilt).1
  have hDi := (below i hilt).2
  have offn : ∀ p ∈ news, p.1 ≠ H2.objs.size ∧ p.1 ≠ D := fun p hp => below _ (hlt (N p hp).1)
  have hst₁ := U.frame 0 s₂.heap h₁ hst fun b _ o q => old b o q
  have loop : ∀ s₃ : Shared, s₃ = { s₂ with heap := h₁, toks := s₂.toks + ([] : List (Str × Value)).length } →
      codeAny (model prog w) A (.compLoop (.ListComp elt [⟨.Tuple [.Name x px, .Name x₂ px₂] tkn tp, iter, [ct], 0⟩] scope pos) 0 (.ref e) (.ref D) (compEnvC scope cl H2.objs.size env)) (RR (.ref D) H2.objs.size) s₃ := by
    rintro s₃ rfl
    refine compLoop_gen
      (fun c s' => ∃ h' tk j ys m', s' = { s₂ with heap := h', toks := tk } ∧ j ≤ vs.length ∧ c = vs.length + 1 - j ∧ ys.length ≤ j ∧ ((∃ old, IsEnum h' e i (j : Int) old) ∧ h'.IsListIter i l j ∧ h'.IsList l vs.toArray) ∧ Fr h₀ L h' m ∧ h'.Ns H2.objs.size m' ∧ News h₀ L h' ((D, lst ys) :: news) ∧ Inv j ys) ?_ (vs.length + 1)
      ⟨h₁, _, 0, [], _, rfl, Nat.zero_le _, rfl, Nat.le_refl _, hst₁, F.keeps old, hns₁, fun p hp => ?_, h0⟩
    · rintro c s' ⟨h', tk, j, ys, m', rfl, hj, rfl, hyl, hst', F', hn', N', hI⟩
      by_cases hjn : j < vs.length
      · refine U.item j _ _ _ (by simpa using hjn) hst' fun T vals h₂ tk₂ hP hT hM hk₂ => ?_
        obtain ⟨t, v, hv, rfl⟩ := hP
        have hv' : vs[j]? = some v := by simpa using hv
        refine U.go _ _ _ j T _ _ _ hM fun h₃ hst₃ hk₃ => ?_
        have hT₃ : IsTup h₃ T #[.int (j : Int) t, v] := hT.at fun o q => hk₃ T o (U.apart j T _ hM) q
        have hk23 : ∀ b o, b ∉ [e, i] → h'.get? b = some o → h₃.get? b = some o := fun b o hb q => hk₃ b o hb (hk₂ b o hb q)
        refine assign_Tuple_tuple hh hT₃ rfl rfl fun h₄ he4 => ?_
        have k4 : ∀ b o, h₃.get? b = some o → h₄.get? b = some o := fun b o q => he4 b o (Nat.ne_of_lt (Heap.lt_size q)) q
        have hnC : h₄.Ns H2.objs.size m' := (hn'.at' fun o q => hk23 _ o (by simp; exact ⟨Ne.symm hCe, Ne.symm hCi⟩) q).at' fun o q => k4 _ o q
        refine assignInOrder_cons (wpAny_assign_Name (wpAny_storeName_local (lookup_relabel_local hx) hnC (fun h₅ hn₅ hs₅ => ?_) (by simp [compEnvC, relabel, hkind])))
        refine assignInOrder_cons (wpAny_assign_Name (wpAny_storeName_local (lookup_relabel_local hx₂) hn₅ (fun h₆ hn₆ hs₆ => ?_) (by simp [compEnvC, relabel, hkind])))
        refine assignInOrder_nil (wpAny_tests_one ?_)
        have k6 : ∀ b o, b ≠ H2.objs.size → h₃.get? b = some o → h₆.get? b = some o := fun b o hb q => hs₆.extBut b o hb (hs₅.extBut b o hb (k4 b o q))
        have F₆ : Fr h₀ L h₆ m := (((fr_but2 F' hk23 heL hiL he0 hi0).keeps k4).change hs₅ hCL hC₀).change hs₆ hCL hC₀
        obtain ⟨oC, heC, hoC⟩ := ns_obj hn₆
        have hst₆ := U.frame (j + 1) h₃ h₆ hst₃ fun b hb o q => k6 b o (by
          have hb' : b = e ∨ b = i ∨ b = l := by simpa using hb
          rcases hb' with rfl | rfl | rfl
          · exact hCe
          · exact hCi
          · exact (offn _ hm).1) q
        have hoe : ∃ oe, h₆.get? e = some oe := by obtain ⟨⟨_, q⟩, _⟩ := hst₆; exact ⟨_, q⟩
        obtain ⟨oe, hoe⟩ := hoe
        have hoi : ∃ oi, h₆.get? i = some oi := by obtain ⟨_, ⟨q, r, _⟩, _⟩ := hst₆; exact ⟨_, r⟩
        obtain ⟨oi, hoi⟩ := hoi
        have N₃ : News h₀ L h₃ ((D, lst ys) :: news) := news_but2 N' hk23 fun p hp => by
          rcases List.mem_cons.mp hp with rfl | hp
          · exact ⟨Ne.symm hDe, Ne.symm hDi⟩
          · exact off p hp
        have N₆ : News h₀ L h₆ ((e, oe) :: (H2.objs.size, oC) :: (D, lst ys) :: (i, oi) :: news) := fun p hp => by
          simp only [List.mem_cons] at hp
          rcases hp with rfl | rfl | rfl | rfl | hp
          · exact ⟨hoe, heL, he0⟩
          · exact ⟨heC, hCL, hC₀⟩
          · exact ⟨k6 _ _ hDC (N₃ _ (.head _)).1, hDL, hD₀⟩
          · exact ⟨hoi, hiL, hi0⟩
          · exact ⟨k6 _ _ (offn p hp).1 (N₃ p (.tail _ hp)).1, (N p hp).2⟩
        have off₆ : Off3 e H2.objs.size D ((i, oi) :: news) := Off3.of fun p hp => by
          rcases List.mem_cons.mp hp with rfl | hp
          · exact ⟨Ne.symm hei, hCi, hDi⟩
          · exact ⟨(off p hp).1, (offn p hp).1, (offn p hp).2⟩
        refine wpAny_mono (R j ys v t hv' hI e oe H2.objs.size oC D _ i oi h₆ _ _ hoC (by simp [hxx]) (by simp) F₆ N₆ off₆ ⟨hCe, hDe, Ne.symm hDC⟩) (fun ok s₄ q₄ => ?_) fun _ _ q => q
        have fin : ∀ (h₇ : Heap), News h₀ L h₇ ((e, oe) :: (H2.objs.size, oC) :: (D, lst ys) :: (i, oi) :: news) → ((∃ old, IsEnum h₇ e i ((j + 1 : Nat) : Int) old) ∧ h₇.IsListIter i l (j + 1) ∧ h₇.IsList l vs.toArray) := fun h₇ N₇ => U.frame (j + 1) h₆ h₇ hst₆ fun b hb o q => by
          have hb' : b = e ∨ b = i ∨ b = l := by simpa using hb
          rcases hb' with rfl | rfl | rfl
          · rw [hoe] at q; rw [← Option.some.inj q]; exact (N₇ _ (.head _)).1
          · rw [hoi] at q; rw [← Option.some.inj q]; exact (N₇ _ (.tail _ (.tail _ (.tail _ (.head _))))).1
          · have z := (N₆ _ (.tail _ (.tail _ (.tail _ (.tail _ hm))))).1
            rw [z] at q; rw [← Option.some.inj q]; exact (N₇ _ (.tail _ (.tail _ (.tail _ (.tail _ hm))))).1
        cases ok with
        | true =>
          simp only [if_true] at q₄ ⊢
          refine wpAny_mono q₄ (fun y s₅ q₅ => ?_) fun _ _ q => q
          obtain ⟨h₇, tk₇, nw, rfl, F₇, N₇, off₇, rfl, hI₇⟩ := q₅
          have zC := (N₇ _ (.tail _ (.head _))).1
          have zD := (N₇ _ (.tail _ (.tail _ (.head _)))).1
          refine append_at (hsz := by show ys.toArray.size ≤ sizeLine; rw [List.size_toArray]; exact Nat.le_trans (Nat.le_trans hyl hj) hsz) zD fun h₈ hs₈ hD₈ => ?_
          refine ⟨vs.length + 1 - (j + 1), by omega, h₈, tk₇, j + 1, ys ++ [y], _, rfl, hjn, rfl, by rw [List.length_append, List.length_singleton]; omega, U.frame (j + 1) h₇ h₈ (fin h₇ N₇) fun b hb o q => hs₈.extBut b o (by
              have hb' : b = e ∨ b = i ∨ b = l := by simpa using hb
              rcases hb' with rfl | rfl | rfl
              · exact hDe
              · exact hDi
              · exact (offn _ hm).2) q, F₇.change hs₈ hDL hD₀, (hoC.ns zC).sameBut hs₈ (Ne.symm hDC), fun p hp => ?_, hI₇⟩
          rcases List.mem_cons.mp hp with rfl | hp
          · exact ⟨hD₈.trans (congrArg some (lst_snoc ys y)), hDL, hD₀⟩
          · exact ⟨hs₈.extBut _ _ (offn p hp).2 (N₇ p (.tail _ (.tail _ (.tail _ (.tail _ hp))))).1, (N p hp).2⟩
        | false =>
          simp only [Bool.false_eq_true, if_false] at q₄ ⊢
          obtain ⟨h₇, tk₇, nw, rfl, F₇, N₇, off₇, rfl, hI₇⟩ := q₄
          have zC := (N₇ _ (.tail _ (.head _))).1
          refine ⟨vs.length + 1 - (j + 1), by omega, h₇, tk₇, j + 1, ys, _, rfl, hjn, rfl, Nat.le_succ_of_le hyl, fin h₇ N₇, F₇, hoC.ns zC, fun p hp => ?_, hI₇⟩
          rcases List.mem_cons.mp hp with rfl | hp
          · exact N₇ _ (.tail _ (.tail _ (.head _)))
          · exact N₇ p (.tail _ (.tail _ (.tail _ (.tail _ hp))))
      · obtain rfl : j = vs.length := Nat.le_antisymm hj (Nat.not_lt.mp hjn)
        refine U.done _ _ _ (by simpa using hst') fun h₂ tk₂ hk₂ => ?_
        exact hRR _ _ h₂ tk₂ _ ys (fr_but2 F' hk₂ heL hiL he0 hi0) (news_but2 N' hk₂ fun p hp => by
          rcases List.mem_cons.mp hp with rfl | hp
          · exact ⟨Ne.symm hDe, Ne.symm hDi⟩
          · exact off p hp) (Off3.one (Off3.of (I := e) (C := H2.objs.size) fun p hp => ⟨(off p hp).1, (offn p hp).1, (offn p hp).2⟩)) (hn'.at' fun o q => hk₂ _ o (by simp; exact ⟨Ne.symm hCe, Ne.symm hCi⟩) q) hC₀ hD₀ hCL hDL (Ne.symm hDC) (fun p hp => (offn p hp).1) hI
    · rcases List.mem_cons.mp hp with rfl | hp
      · exact ⟨hacc, hDL, hD₀⟩
      · exact ⟨old _ _ (N p hp).1, (N p hp).2⟩
  exact codeAny_compStart_list (loop _ rfl) (U.self 0 _ _ _ hst₁ (loop _ rfl))
end
end Mine
end
section
-- Cf
open PySem PySem.W PyProof.Rows PySem.Spec PySem.Calls PyProof PyProof.Rows.LCg
set_option maxRecDepth 100000
set_option maxHeartbeats 4000000
namespace Mine
section
variable {prog : Program} {w : World} {A : Around} {E : Value → Shared → Prop} {s : Shared} {h₀ : Heap} {L : Addr} {m : Str → Option Value} {env : Env}
def RestE (prog : Program) (w : World) (A : Around) (h₀ : Heap) (L : Addr) (m : Str → Option Value) (env : Env) (ct elt : PySem.Expr) (x x₂ : Str) (scope : Scope) (cl : List (Str × Addr)) (Q : Value → Shared → Prop) (s₂ : Shared) (lu : Addr) (vs : List Value) (ku : Nat) (news : List (Addr × Obj)) : Prop :=
  ∃ Inv : Nat → List Value → Prop, Inv 0 [] ∧ TurnE prog w A h₀ L m env ct elt x x₂ scope cl s₂ vs news Inv ∧ ∀ ys, Inv vs.length ys → FinE h₀ L m s₂ Q ys news
theorem ListComp_E {ct elt iter : PySem.Expr} {x x₂ : Str} {px px₂ tp : Pos} {tkn} {scope : Scope} {cl : List (Str × Addr)} {pos : Pos} {Q : Value → Shared → Prop} (F₀u : Fr h₀ L s.heap m)
    (hclos : closureFor scope env = pure cl) (hcell : ∀ y ∈ scope.names, y.2 ≠ .cell) (hkind : scope.kind = .function)
    (hnames : ∀ y ∈ scope.names, y.2 = .local → scope.names.lookup y.1 = some .local) (hx : scope.names.lookup x = some .local) (hx₂ : scope.names.lookup x₂ = some .local) (hxx : x ≠ x₂)
    (h : wpAny (model prog w) A (eval iter env) (fun xv s₁ => wpAny (model prog w) A (pyIter xv) (SrcE prog w A h₀ L m (RestE prog w A h₀ L m env ct elt x x₂ scope cl Q)) E s₁) E s)
    (hs : ∀ x, foldedSetIterable iter env x = pure x := by intro _; rfl) :
    wpAny (model prog w) A (eval (.ListComp elt [⟨.Tuple [.Name x px, .Name x₂ px₂] tkn tp, iter, [ct], 0⟩] scope pos) env) Q E s := by
  rw [eval_ListComp]
  refine wpAny_comprehension_free (use := none) rfl hs hclos hkind hnames (wpAny_mono h (fun xv s₁ h₁ => wpAny_mono h₁ (fun it s₂ h₂ => ?_) fun _ _ e => e) fun _ _ e => e)
  obtain ⟨e, i, l, vs, k, news, rfl, hst, hm, hsz, F, N, hei, heL, hiL, he0, hi0, off, helt, hilt, hh, Inv, h0, R, fin⟩ := h₂
  refine block_E Inv hh hcell hkind hx hx₂ hxx hst hm hsz F N hei heL hiL he0 hi0 off helt hilt h0 R ?_
  intro D C h tk m' ys F' N' o1 hn hC₀ hD₀ hCL hDL hCD offC hI
  refine ⟨m', hn, fun h'' hs'' => fin ys hI D h'' tk (F'.change hs'' hCL hC₀) (fun p hp => ?_) o1⟩
  refine ⟨hs''.extBut _ _ ?_ (N' p hp).1, (N' p hp).2⟩
  rcases List.mem_cons.mp hp with rfl | hp
  · exact Ne.symm hCD
  · exact offC p hp
theorem src_enumE {Rest : Shared → Addr → List Value → Nat → List (Addr × Obj) → Prop} {l : Addr} {vs : List Value} {k : Nat} {news : List (Addr × Obj)} (hh : A.handled = none) (F : Fr h₀ L s.heap m) (N : News h₀ L s.heap news) (hm : (l, listOf vs.toArray k) ∈ news) (hsz : vs.length ≤ sizeLine)
    (h : ∀ g, Rest { s with heap := g } l vs k news) :
    wpAny (model prog w) A (call (.type "enumerate") [.ref l]) (fun xv s₁ => wpAny (model prog w) A (pyIter xv) (SrcE prog w A h₀ L m Rest) E s₁) E s := by
  have hax := N _ hm
  have hl : s.heap.IsList l vs.toArray := ⟨_, hax.1, rfl, k, rfl⟩
  have hlt : l < s.heap.objs.size := Heap.lt_size hax.1
  have hLs : L < s.heap.objs.size := F.ns.lt
  refine call_enumerate_list hl fun h' hE hI hsz' hk => ?_
  refine wpAny_pyIter_enum hE ?_
  have hE' : ∃ oe : Obj, h'.get? (s.heap.objs.size + 1) = some oe := ⟨_, hE⟩
  have hI' : ∃ oi : Obj, h'.get? s.heap.objs.size = some oi := by obtain ⟨o, e, _⟩ := hI; exact ⟨o, e⟩
  obtain ⟨oe, hoe⟩ := hE'
  obtain ⟨oi, hoi⟩ := hI'
  exact ⟨s.heap.objs.size + 1, s.heap.objs.size, l, vs, k, news, rfl, ⟨⟨.none, hE⟩, hI, hl.at fun o e => hk l o e⟩, hm, hsz, F.keeps hk, N.grown hk, Nat.succ_ne_self _, Ne.symm (ktu_ne 1 hLs), Ne.symm (Nat.ne_of_lt hLs), size_none F (Nat.le_add_right _ _), size_none F (Nat.le_refl _),
    fun p hp => ⟨ktu_ne 1 (news_lt N hp), Nat.ne_of_lt (news_lt N hp)⟩, Heap.lt_size hoe, Heap.lt_size hoi, hh, h h'⟩
theorem range_snoc (told : List (List Nat)) (c j : Nat) : (List.range (j + 1)).filter (fun i => decide (last1 (told.getD i []) = [c])) = (List.range j).filter (fun i => decide (last1 (told.getD i []) = [c])) ++ (if last1 (told.getD j []) = [c] then [j] else []) := by
  rw [List.range_succ, List.filter_append]
  congr 1
  by_cases h : last1 (told.getD j []) = [c]
  · rw [if_pos h, List.filter_cons, if_pos (decide_eq_true h), List.filter_nil]
  · rw [if_neg h, List.filter_cons, if_neg (by rw [decide_eq_false h]; decide), List.filter_nil]
theorem comp_hits {ct elt : PySem.Expr} {x x₂ : Str} {scope : Scope} {cl : List (Str × Addr)} {Q : Value → Shared → Prop} {l : Addr} {rt : RT} {k : Nat} {news : List (Addr × Obj)} (c : Nat)
    (turn : ∀ (j : Nat) (r : List Nat) (t u : Tok) (ys : List Value), rt[j]? = some (r, t) → ∀ I oI C oC D m₂ i oi h tk (E' : Value → Shared → Prop), NsObj oC m₂ → m₂ x = some (.int (j : Int) u) → m₂ x₂ = some (.str (S r) t) → Fr h₀ L h m → News h₀ L h ((I, oI) :: (C, oC) :: (D, lst ys) :: (i, oi) :: news) → Off3 I C D ((i, oi) :: news) → ((@Ne Nat I C) ∧ (@Ne Nat I D) ∧ (@Ne Nat C D)) →
      wpAny (model prog w) A (isTrue ct (compEnvC scope cl C env) (eval ct (compEnvC scope cl C env))) (fun ok s' => ok = decide (last1 r = [c]) ∧ if ok = true then
          wpAny (model prog w) A (eval elt (compEnvC scope cl C env)) (CompEnd h₀ L m { s with heap := h, toks := tk } I oI C oC D (lst ys) (fun nw => nw = (i, oi) :: news) (fun y _ => ∃ u, y = .int (j : Int) u)) E' s'
        else CompEnd h₀ L m { s with heap := h, toks := tk } I oI C oC D (lst ys) (fun nw => nw = (i, oi) :: news) (fun _ _ => True) Value.none s') E' { s with heap := h, toks := tk })
    (fin : ∀ ys, IntsAre ys ((hitsL (rt.map (·.1)) c).map fun n : Nat => (n : Int)) → FinE h₀ L m s Q ys news) : RestE prog w A h₀ L m env ct elt x x₂ scope cl Q s l (tv rt) k news := by
  refine ⟨fun j ys => IntsAre ys (((List.range j).filter (fun i => decide (last1 ((rt.map (·.1)).getD i []) = [c]))).map fun n : Nat => (n : Int)), .nil, fun j ys v t hv hI I oI C oC D m₂ i oi h tk E' a b d e f g o => ?_, fun ys hI => ?_⟩
  · obtain ⟨r, t', rfl, hr⟩ := tvA_get (i := j) (x := v) (by simpa using hv)
    have hrow : (rt.map (·.1)).getD j [] = r := map_getD hr
    refine wpAny_mono (turn j r t' t ys hr I oI C oC D m₂ i oi h tk E' a b d e f g o) (fun ok s' q => ?_) fun _ _ z => z
    obtain ⟨rfl, q⟩ := q
    by_cases er : last1 r = [c]
    · rw [decide_eq_true er] at q ⊢
      simp only [if_true] at q ⊢
      refine wpAny_mono q (fun y s'' z => ?_) fun _ _ z => z
      refine CompEnd.mono z fun n' hn => ?_
      obtain ⟨u, rfl⟩ := hn
      rw [range_snoc, hrow, if_pos er, List.map_append]
      exact ints_snoc hI _ _
    · rw [decide_eq_false er] at q ⊢
      simp only [Bool.false_eq_true, if_false] at q ⊢
      refine CompEnd.mono q fun n' _ => ?_
      rw [range_snoc, hrow, if_neg er, List.append_nil]
      exact hI
  · refine fin ys ?_
    unfold hitsL
    rw [List.length_map]
    rw [tv_length] at hI
    exact hI
end
end Mine
end
section
-- P9
open PySem PySem.W PyProof.Rows PySem.Spec PySem.Calls PyProof PyProof.V
set_option maxRecDepth 100000
set_option maxHeartbeats 4000000
namespace Mine
theorem idx_at : ∀ {l : List Nat} {c : Nat}, c ∈ l → l[l.idxOf c]? = some c ∧ ∀ i, i < l.idxOf c → l[i]? ≠ some c
  | [], c, h => by cases h
  | a :: r, c, h => by
    rw [List.idxOf_cons]
    by_cases e : a = c
    · subst e
      simp
    · have h' : c ∈ r := by
        rcases List.mem_cons.mp h with q | q
        · exact absurd q.symm e
        · exact q
      have ih := idx_at h'
      have e2 : (a == c) = false := by simpa using e
      rw [e2, cond_false]
      refine ⟨by simpa using ih.1, fun i hi => ?_⟩
      cases i with
      | zero => simpa using e
      | succ i => simpa using ih.2 i (by omega)
theorem occ_idx {l : List Nat} {c : Nat} (h : c ∈ l) : ∃ rest, PySem.Builtin.Str.occurrences (S l) (S [c]) 0 (S l).length 1 = l.idxOf c :: rest := by
  have key : ∀ i, StrLaws.At (S l) (S [c]) (S l).length i ↔ l[i]? = some c := fun i => by
    have := StrLaws.subAt_one (S l) c i
    unfold StrLaws.At; simpa [S] using this
  obtain ⟨h1, h2⟩ := idx_at h
  rcases StrLaws.occ_head (S l) (S [c]) 1 (Nat.le_refl _) with ⟨_, q⟩ | ⟨i, r, e, q, k⟩
  · exact absurd ((key _).mpr h1) (q _)
  · have hi := (key i).mp q
    rcases Nat.lt_trichotomy i (l.idxOf c) with z | z | z
    · exact absurd hi (h2 i z)
    · rw [← z]; exact ⟨r, e⟩
    · exact absurd ((key _).mpr h1) (k _ z)
theorem join_sing (a b c d e : Nat) : Txt.join (Str.ofString "") [S [a], S [b], S [c], S [d], S [e]] = S [a, b, c, d, e] := by
  rfl
theorem joinOk_sing (a b c d e : Nat) : JoinOk (Str.ofString "") [S [a], S [b], S [c], S [d], S [e]] = true := by
  rfl
theorem places5 (l : List Nat) : placesL l = [65 + l.idxOf 65, 65 + l.idxOf 66, 65 + l.idxOf 67, 65 + l.idxOf 68, 65 + l.idxOf 69] := rfl
section
variable {prog : Program} {w : World} {A : Around} {E : Value → Shared → Prop} {s : Shared} {Q : Value → Shared → Prop}
theorem index_S {l : List Nat} {c : Nat} {t u : Tok} (h : c ∈ l) (hq : Q (.int (l.idxOf c : Int) s.toks) { s with toks := s.toks + 1 }) : wpAny (model prog w) A (call (.builtin "str.index") [.str (S l) t, .str (S [c]) u]) Q E s := by
  obtain ⟨r, e⟩ := occ_idx h
  exact SC.index e hq
theorem join_places {D : Addr} {rt : RT} {t : Tok} {l : List Nat} (hl : s.heap.IsList D (tv rt).toArray) (e : rt.map (·.1) = sing (placesL l)) (h : ∀ t' k, Q (.str (S (placesL l)) t') { s with toks := k }) :
    wpAny (model prog w) A (call (.builtin "str.join") [.str (Str.ofString "") t, .ref D]) Q E s := by
  have hv : strValues (rt.map fun p => (S p.1, p.2)) = tv rt := by
    unfold strValues tv; rw [List.map_map]; rfl
  have ht : (rt.map fun p => (S p.1, p.2)).map (·.1) = (sing (placesL l)).map S := by
    rw [← e, List.map_map, List.map_map]; rfl
  refine SC.join (l := rt.map fun p => (S p.1, p.2)) (texts := (sing (placesL l)).map S) (by rw [hv]; exact hl) ht ?_ fun t' k => ?_
  · rw [places5]; exact joinOk_sing _ _ _ _ _
  · rw [places5]
    have := h t' k
    rw [places5] at this
    exact (join_sing _ _ _ _ _).symm ▸ this
def pdata (a b : List (List Nat)) : PyData := .tuple [.list (rdata a), .list (rdata b)]
theorem reads_pair {h : Heap} {D a b : Addr} {r1 r2 : RT} {k : Nat} (ho : h.get? D = some (tupObj #[.ref a, .ref b] k)) (ha : h.IsList a (tv r1).toArray) (hb : h.IsList b (tv r2).toArray) : ∃ as, Reads h (.ref D) (pdata (r1.map (·.1)) (r2.map (·.1))) as :=
  ⟨_, Reads.tuple ho rfl rfl (.cons (reads_newData ha (rd_carried r1)) (.cons (reads_newData hb (rd_carried r2)) .nil))⟩
theorem pd_shaped {a b : List (List Nat)} (ha : ∀ l ∈ a, ∀ c ∈ l, c < 128) (hb : ∀ l ∈ b, ∀ c ∈ l, c < 128) : SeqAt.shaped (pdata a b) = true := by
  unfold pdata
  simp [SeqAt.shaped, PyData.canLay0, PyData.canLayAll0, PyData.depth, PyData.depthAll, rd_canLay a ha, rd_canLay b hb, rd_depth]
theorem pd_same (a b : List (List Nat)) : PySem.Spec.same (pdata a b) (pdata a b) = true := by
  unfold pdata
  simp only [PySem.Spec.same, PySem.Spec.sameAll, rd_sameAll, decide_true, Bool.and_self]
theorem ne_pair {D D2 a b a2 b2 : Addr} {r1 r2 q1 q2 : RT} {k k2 : Nat} {x y : List (List Nat)} (ho : s.heap.get? D = some (tupObj #[.ref a, .ref b] k)) (ho2 : s.heap.get? D2 = some (tupObj #[.ref a2, .ref b2] k2)) (ha : s.heap.IsList a (tv r1).toArray) (hb : s.heap.IsList b (tv r2).toArray) (ha2 : s.heap.IsList a2 (tv q1).toArray) (hb2 : s.heap.IsList b2 (tv q2).toArray)
    (e1 : r1.map (·.1) = x) (e2 : r2.map (·.1) = y) (e3 : q1.map (·.1) = x) (e4 : q2.map (·.1) = y) (hx : ∀ l ∈ x, ∀ c ∈ l, c < 128) (hy : ∀ l ∈ y, ∀ c ∈ l, c < 128) (hu : A.units + 64 < cLine) (h : Q (.bool false) s) :
    wpAny (model prog w) A (compareOp .NotEq (.ref D) (.ref D2)) Q E s := by
  obtain ⟨as, R1⟩ := reads_pair ho ha hb
  obtain ⟨bs, R2⟩ := reads_pair ho2 ha2 hb2
  rw [e1, e2] at R1
  rw [e3, e4] at R2
  have sh : ∀ z : List (List Nat), (Shape.list .str).has (.list (rdata z)) = true := fun z => list_map_has fun _ => rfl
  have shp : (Shape.tuple [.list .str, .list .str]).has (pdata x y) = true := by
    unfold pdata
    simp only [Shape.has, Shape.hasAll] at *
    simp [sh]
  exact ne_dataH_same R1 R2 (pd_shaped hx hy) (pd_shaped hx hy) hu (SeqAt.noMix_of_shape (.tuple [.list .str, .list .str]) rfl _ _ shp shp) (by rw [pd_same]; exact h)
theorem comp_places {h₀ : Heap} {L : Addr} {m : Str → Option Value} {env : Env} {elt : PySem.Expr} {x : Str} {scope : Scope} {cl : List (Str × Addr)} {T : List (Addr × Obj) → Prop} {Fin : List Value → List (Addr × Obj) → Prop} {l : List Nat} {news : List (Addr × Obj)}
    (turn : ∀ (c : Nat) (t : Tok) (ys : List Value), c ∈ [65, 66, 67, 68, 69] → ∀ I oI C oC D m₂ h tk (E' : Value → Shared → Prop), LCg.NsObj oC m₂ → m₂ x = some (.str (S [c]) t) → Fr h₀ L h m → News h₀ L h ((I, oI) :: (C, oC) :: (D, LCg.lst ys) :: news) → LCg.Off3 I C D news → ((@Ne Nat I C) ∧ (@Ne Nat I D) ∧ (@Ne Nat C D)) →
      wpAny (model prog w) A (eval elt (compEnvC scope cl C env)) (LCg.CompEnd h₀ L m { s with heap := h, toks := tk } I oI C oC D (LCg.lst ys) T (fun y nw => nw = news ∧ ∃ u, y = .str (S [65 + l.idxOf c]) u)) E' { s with heap := h, toks := tk })
    (fin : ∀ rt : RT, rt.map (·.1) = sing (placesL l) → Fin (tv rt) news) : LCg.CompRest prog w A h₀ L m env elt x scope cl s T (SignAt (Str.ofString "ABCDE")) Fin 5 0 [] news := by
  refine compU_ind (n := 5) (fun i ys nw => nw = news ∧ ∃ rt : RT, ys = tv rt ∧ rt.map (·.1) = sing ((placesL l).take i)) (fun i ys nw hi hI v I oI C oC D m₂ h tk E' hv a b d e f g => ?_) (fun ys nw hI => ?_) _ 0 [] news (by omega) ⟨rfl, [], rfl, rfl⟩
  · obtain ⟨rfl, rt, rfl, hr⟩ := hI
    obtain ⟨c, u, hc, rfl⟩ := hv
    have hc2 : [65, 66, 67, 68, 69][i]? = some c := by
      have e : (Str.ofString "ABCDE").cps = #[65, 66, 67, 68, 69] := by decide +kernel
      rw [e] at hc
      simpa using hc
    have hp : (placesL l)[i]? = some (65 + l.idxOf c) := by
      unfold placesL; rw [List.getElem?_map, hc2]; rfl
    refine wpAny_mono (turn c u _ (List.mem_of_getElem? hc2) I oI C oC D m₂ h tk E' a b d e f g) (fun y s' z => CompEnd.mono z fun n' hn => ?_) fun _ _ z => z
    obtain ⟨rfl, u', rfl⟩ := hn
    refine ⟨rfl, _, (tv_append rt [([65 + l.idxOf c], u')]).symm, ?_⟩
    rw [List.map_append, hr, List.take_add_one, hp]
    unfold sing
    rw [List.map_append]; rfl
  · obtain ⟨rfl, rt, rfl, hr⟩ := hI
    exact fin rt hr
end
/-- what the plain law says, part by part -/
structure LawFacts (l : List Nat) : Prop where
  h5 : l.length = 5
  low : ∀ c ∈ l, c < 128
  has : ∀ c ∈ [65, 66, 67, 68, 69], c ∈ l
  ok : tabsOk l 0 [] [] = true
  ne : (tabs l 0 [] []).1 ≠ []
  s1 : sizeOk (tabs l 0 [] []).1 = true
  s2 : sizeOk (tabs l 0 [] []).2 = true
  ok2 : tabsOk (placesL l) 0 [] [] = true
  eq2 : tabs (placesL l) 0 [] [] = ((tabs l 0 [] []).2, (tabs l 0 [] []).1)
  up : ((tabs l 0 [] []).1.headD []).length = bestN l true 32
  down : (tabs l 0 [] []).1.length = bestN l false 32
  go : backsGo [69, 68, 67, 66, 65] ⟨(tabs l 0 [] []).1, (tabs l 0 [] []).2, []⟩ = true
  back : (backs [69, 68, 67, 66, 65] ⟨(tabs l 0 [] []).1, (tabs l 0 [] []).2, []⟩).back = l
theorem lawFacts {l : List Nat} (h : lawOk l = true) : LawFacts l := by
  unfold lawOk at h
  simp only [Bool.and_eq_true, decide_eq_true_eq, List.all_eq_true, bne_iff_ne, ne_eq] at h
  obtain ⟨⟨⟨⟨⟨⟨⟨⟨⟨⟨⟨⟨a, b⟩, c⟩, d⟩, e⟩, f⟩, g⟩, i⟩, j⟩, k⟩, m⟩, n⟩, o⟩ := h
  exact ⟨a, b, c, d, e, f, g, i, j, k, m, n, o⟩
theorem places_len (l : List Nat) : (placesL l).length = 5 := rfl
theorem src_abc {prog : Program} {w : World} {A : Around} {E : Value → Shared → Prop} {s : Shared} {h₀ : Heap} {L : Addr} {m : Str → Option Value} {Rest : Shared → (List (Addr × Obj) → Prop) → (Nat → Value → Prop) → Nat → List (Addr × Obj) → Prop} {t : Tok} {news : List (Addr × Obj)}
    (hh : A.handled = none) (F : Fr h₀ L s.heap m) (N : News h₀ L s.heap news) (h : ∀ g, Rest { s with heap := g } (fun _ => True) (SignAt (Str.ofString "ABCDE")) 5 news) :
    wpAny (model prog w) A (pyIter (.str (Str.ofString "ABCDE") t)) (SrcW prog w A h₀ L m Rest) E s := by
  have e : (Str.ofString "ABCDE").cps.size = 5 := by decide +kernel
  refine src_strA hh F N (by decide +kernel) (by rw [e, sizeLine_eq]; omega) fun g => ?_
  rw [e]; exact h g
theorem abc_S : Str.ofString "ABCDE" = S [65, 66, 67, 68, 69] := by decide +kernel
theorem item_abc {i : Nat} (h : i < 5) : Txt.item (Str.ofString "ABCDE") (i : Int) = S [65 + i] := by
  rw [abc_S, item_S _ _ (by omega) (by simp only [List.length_cons, List.length_nil]; omega)]
  match i, h with
  | 0, _ => rfl
  | 1, _ => rfl
  | 2, _ => rfl
  | 3, _ => rfl
  | 4, _ => rfl
theorem idx_lt {l : List Nat} {c : Nat} (h5 : l.length = 5) (h : c ∈ l) : l.idxOf c < 5 := by
  rw [← h5]; exact List.idxOf_lt_length_iff.mpr h
theorem head_len {rt : RT} {x : List (List Nat)} {r : List Nat} {t : Tok} {n : Nat} (e : rt.map (·.1) = x) (hr : rt[(0 : Int).toNat]? = some (r, t)) (h : (x.headD []).length = n) : ((S r).length : Int) = (n : Int) := by
  have e0 : x.headD [] = r := by
    rw [← e]
    cases rt with
    | nil => simp at hr
    | cons p q =>
      have : p = (r, t) := by simpa using hr
      rw [this]; rfl
  rw [e0] at h
  rw [S_length, h]
theorem ne_two {prog : Program} {w : World} {A : Around} {E : Value → Shared → Prop} {s : Shared} {Q : Value → Shared → Prop} {a b : Addr} {n1 n2 m1 m2 : Int} {t1 t2 u1 u2 : Tok} {k1 k2 : Nat} (ho : s.heap.get? a = some (listOf [Value.int n1 t1, .int n2 t2].toArray k1)) (ho2 : s.heap.get? b = some (listOf [Value.int m1 u1, .int m2 u2].toArray k2))
    (e1 : n1 = m1) (e2 : n2 = m2) (hu : A.units + 64 < cLine) (h : Q (.bool false) s) : wpAny (model prog w) A (compareOp .NotEq (.ref a) (.ref b)) Q E s := by
  subst e1 e2
  exact ne_intsK (vs := [.int n1 t1, .int n2 t2]) (us := [.int n1 u1, .int n2 u2]) (ns := [n1, n2]) (ms := [n1, n2]) ⟨_, ho, rfl, _, rfl⟩ (.cons _ _ (.cons _ _ .nil)) ⟨_, ho2, rfl, _, rfl⟩ (.cons _ _ (.cons _ _ .nil)) hu (by rw [decide_eq_true rfl]; exact h)
theorem size_low {x : List (List Nat)} (h : sizeOk x = true) : ∀ l ∈ x, ∀ c ∈ l, c < 128 := fun l hl c hc => by
  unfold sizeOk at h
  rw [Bool.and_eq_true] at h
  have := List.all_eq_true.mp h.2 l hl
  rw [Bool.and_eq_true] at this
  exact of_decide_eq_true (List.all_eq_true.mp this.2 c hc)
theorem rows_len {rt : RT} {x : List (List Nat)} {n : Nat} (e : rt.map (·.1) = x) (h : x.length = n) : (rt.length : Int) = (n : Int) := by
  rw [← h, ← e, List.length_map]
theorem rows_pos {rt : RT} {x : List (List Nat)} (e : rt.map (·.1) = x) (h : x ≠ []) : 0 < rt.length := by
  cases rt with
  | nil => exact absurd e.symm h
  | cons p r => exact Nat.succ_pos _
theorem slice_last (r : List Nat) : Txt.slice (S r) (some (-1)) none = S (last1 r) := by
  unfold last1
  rw [slice_S r (some (-1)) none (r.length - 1) (r.length - (r.length - 1)) (by omega)]
  · rw [List.take_of_length_le (by simp)]
  · unfold PySem.Builtin.Str.strSliceIndices
    simp only [show (1 : Int) > 0 by decide, if_true]
    rw [if_pos (by omega), range_one _ _ (by omega)]
    congr 2
    · funext i; omega
    · omega
theorem slice_cut (r : List Nat) : Txt.slice (S r) none (some (-1)) = S (r.take (r.length - 1)) := by
  rw [slice_S r none (some (-1)) 0 (r.length - 1) (by omega), List.drop_zero]
  unfold PySem.Builtin.Str.strSliceIndices
  simp only [show (1 : Int) > 0 by decide, if_true]
  rw [if_pos (by omega), range_one _ _ (by omega)]
  congr 2
  omega
theorem last_eq (r : List Nat) (c : Nat) : (Txt.slice (S r) (some (-1)) none == (⟨#[c]⟩ : Str)) = decide (last1 r = [c]) := by
  rw [slice_last, show (⟨#[c]⟩ : Str) = S [c] from rfl]
  show decide (S (last1 r) = S [c]) = _
  rw [Bool.eq_iff_iff, decide_eq_true_eq, decide_eq_true_eq, S_inj]
theorem row_ne (r : List Nat) : (!(S r == Str.ofString "")) = decide (r ≠ []) := by
  rw [show Str.ofString "" = S [] from by decide +kernel]
  show (!decide (S r = S [])) = _
  rw [Bool.eq_iff_iff]
  simp [S_inj]
theorem same_S (r : List Nat) : (S r == S r) = true := by
  show decide (S r = S r) = true
  exact decide_eq_true rfl
theorem head_item {prog : Program} {w : World} {A : Around} {E : Value → Shared → Prop} {s : Shared} {h₀ : Heap} {L D : Addr} {led : List (Addr × Obj)} {ys : List Value} {hits : List Nat} {u : Tok} {value slice : PySem.Expr} {Q : Value → Shared → Prop} (N : News h₀ L s.heap led) (hm : (D, LCg.lst ys) ∈ led) (hI : IntsAre ys (hits.map fun n : Nat => (n : Int))) (hne : hits ≠ [])
    (h : ∀ t, Q (.int (hits.headD 0 : Int) t) s)
    (hs : subscripted slice false (.ref D) (.int 0 u) = operate [.ref D, .int 0 u] (getItem (.ref D) (.int 0 u)) := by with_unfolding_all rfl) :
    wpAny (model prog w) A (subscriptTail value slice (.ref D) (.int 0 u)) Q E s := by
  cases hits with
  | nil => exact absurd rfl hne
  | cons a r =>
    rw [List.map_cons] at hI
    cases hI with
    | cons n t hr =>
      have hl := lst_list N hm
      exact tail_any hl.typeIs slot_list_getitem.lookup (wpAny_getItem_list hl (by decide) (by decide) rfl (h t)) hs
theorem rl_setS {prog : Program} {w : World} {A : Around} {E : Value → Shared → Prop} {s : Shared} {h₀ : Heap} {L d : Addr} {m : Str → Option Value} {led led' : List (Addr × Obj)} {rt : RT} {n : Nat} {k : Int} {t u : Tok} {r : List Nat} {x : Str} {Q : Unit → Shared → Prop} (F : Fr h₀ L s.heap m) (N : News h₀ L s.heap led) (e : x = S r) (U : Upd d (rowsO rt n) (rowsO (rt.set k.toNat (r, u)) n) led led') (hz : rt.length ≤ 1000) (h0 : 0 ≤ k) (h1 : k < rt.length)
    (h : ∀ h', Fr h₀ L h' m → News h₀ L h' led' → Q () { s with heap := h' }) : wpAny (model prog w) A (setItem (.ref d) (.int k t) (.str x u)) Q E s := by
  subst e
  exact rl_set F N U hz h0 h1 h
structure BackFacts (b : BackS) (c : Nat) : Prop where
  s1 : sizeOk b.rows = true
  s2 : sizeOk b.told = true
  bl : b.back.length ≤ 5
  hit : hitsL b.told c ≠ []
  kR : (hitsL b.told c).headD 0 < b.rows.length
  kT : (hitsL b.told c).headD 0 < b.told.length
  ne : ∀ r ∈ b.rows, r ≠ []
  ok : takeOutOk b.rows ((hitsL b.told c).headD 0) = true
  sl : (takeOut b.rows ((hitsL b.told c).headD 0)).2.length ≤ 5
  s3 : sizeOk (backNext b c).rows = true
  s4 : sizeOk (backNext b c).told = true
  ri : risesB (backNext b c).rows = true
  le : (backNext b c).rows.map List.length = ((backNext b c).told.filter (· ≠ [])).map List.length
theorem backFacts {b : BackS} {c : Nat} (h : backGo b c = true) : BackFacts b c := by
  unfold backGo at h
  simp only [Bool.and_eq_true, decide_eq_true_eq, List.all_eq_true, bne_iff_ne, ne_eq] at h
  obtain ⟨⟨⟨⟨⟨⟨⟨⟨⟨⟨⟨⟨a, b⟩, c⟩, d⟩, e⟩, f⟩, g⟩, i⟩, j⟩, k⟩, m⟩, n⟩, o⟩ := h
  exact ⟨a, b, c, d, e, f, g, i, j, k, m, n, by simpa using o⟩
structure BackInv (L xR xT : Addr) (wl : List Nat) (o2 : Obj) (m : Str → Option Value) (i : Nat) (m₁ : Str → Option Value) (news₁ : List (Addr × Obj)) (rt tt : RT) (nR nT : Nat) (o1 : Obj) (v1 : Option Value) (bk : List Nat) (tb : Tok) : Prop where
  led : news₁ = [(xT, rowsO tt nT), (xR, rowsO rt nR), (L + 1 + 1, o1), (L + 1, o2)]
  cell : o1.data = .cell v1
  go : backsGo ([69, 68, 67, 66, 65].drop i) ⟨rt.map (·.1), tt.map (·.1), bk⟩ = true
  fin : (backs ([69, 68, 67, 66, 65].drop i) ⟨rt.map (·.1), tt.map (·.1), bk⟩).back = wl
  back : m₁ (Str.ofString "back") = some (.str (S bk) tb)
  rest : ∀ z, z ≠ Str.ofString "back" → z ≠ Str.ofString "which" → m₁ z = if z = Str.ofString "rows" then some (.ref xR) else if z = Str.ofString "told" then some (.ref xT) else m z
abbrev BackI (L xR xT : Addr) (wl : List Nat) (o2 : Obj) (m : Str → Option Value) (i : Nat) (m₁ : Str → Option Value) (news₁ : List (Addr × Obj)) : Prop := ∃ rt tt nR nT o1 v1 bk tb, BackInv L xR xT wl o2 m i m₁ news₁ rt tt nR nT o1 v1 bk tb
theorem turn_at {i c : Nat} (h : (Str.ofString "EDCBA").cps[i]? = some c) : ([69, 68, 67, 66, 65] : List Nat)[i]? = some c ∧ c < 128 := by
  have e : (Str.ofString "EDCBA").cps = #[69, 68, 67, 66, 65] := by decide +kernel
  rw [e] at h
  have h2 : ([69, 68, 67, 66, 65] : List Nat)[i]? = some c := by simpa using h
  refine ⟨h2, ?_⟩
  have := List.mem_of_getElem? h2
  simp only [List.mem_cons, List.not_mem_nil, or_false] at this
  omega
theorem turn_size : (Str.ofString "EDCBA").cps.size = 5 := by decide +kernel
theorem BackInv.facts {L xR xT : Addr} {wl : List Nat} {o2 : Obj} {m : Str → Option Value} {i : Nat} {m₁ : Str → Option Value} {news₁ : List (Addr × Obj)} {rt tt : RT} {nR nT : Nat} {o1 : Obj} {v1 : Option Value} {bk : List Nat} {tb : Tok} (h : BackInv L xR xT wl o2 m i m₁ news₁ rt tt nR nT o1 v1 bk tb) {c : Nat} (hc : ([69, 68, 67, 66, 65] : List Nat)[i]? = some c) :
    BackFacts ⟨rt.map (·.1), tt.map (·.1), bk⟩ c ∧ backsGo ([69, 68, 67, 66, 65].drop (i + 1)) (backNext ⟨rt.map (·.1), tt.map (·.1), bk⟩ c) = true ∧ (backs ([69, 68, 67, 66, 65].drop (i + 1)) (backNext ⟨rt.map (·.1), tt.map (·.1), bk⟩ c)).back = wl := by
  have g := h.go
  have f := h.fin
  rw [drop_at hc] at g f
  have g' := Bool.and_eq_true_iff.mp g
  exact ⟨backFacts g'.1, g'.2, f⟩
theorem fr_back {h₀ h : Heap} {L : Addr} {m₁ m : Str → Option Value} {x y : Str} {v : Value} (F : Fr h₀ L h m₁) (e1 : m₁ x = some v) (e : ∀ z, z ≠ x → z ≠ y → m₁ z = m z) : Fr h₀ L h (fun z => if z = x then some v else if z = y then m₁ z else m z) := fr_best F e1 e
theorem back_m {m : Str → Option Value} {x y : Str} {a b : Value} (h1 : m x = some a) (h2 : m y = some b) (z : Str) : m z = if z = x then some a else if z = y then some b else m z := by
  by_cases e : z = x
  · rw [if_pos e, e, h1]
  · rw [if_neg e]
    by_cases e2 : z = y
    · rw [if_pos e2, e2, h2]
    · rw [if_neg e2]
theorem S_nil : Str.ofString "" = S [] := by decide +kernel
theorem told_cut {tt1 : RT} {k : Nat} {r : List Nat} {t u : Tok} (hX : tt1[((k : Nat) : Int).toNat]? = some (r, t)) : (tt1.set ((k : Nat) : Int).toNat (r.take (r.length - 1), u)).map (·.1) = toldCut (tt1.map (·.1)) k := by
  have e : (tt1.map (·.1)).getD k [] = r := map_getD hX
  unfold toldCut
  rw [List.map_set, e]
  rfl
theorem cut_store {prog : Program} {w : World} {A : Around} {E : Value → Shared → Prop} {s : Shared} {h₀ : Heap} {L d : Addr} {m : Str → Option Value} {rest : List (Addr × Obj)} {tt1 : RT} {n k : Nat} {r : List Nat} {t u u2 : Tok} {Q : Unit → Shared → Prop}
    (F : Fr h₀ L s.heap m) (N : News h₀ L s.heap ((d, rowsO tt1 n) :: rest)) (off : ∀ p ∈ rest, p.1 ≠ d) (hX : tt1[((k : Nat) : Int).toNat]? = some (r, t)) (hz : tt1.length ≤ 1000)
    (h : ∀ h' tt2 n2, Fr h₀ L h' m → News h₀ L h' ((d, rowsO tt2 n2) :: rest) → tt2.map (·.1) = toldCut (tt1.map (·.1)) k → Q () { s with heap := h' }) :
    wpAny (model prog w) A (setItem (.ref d) (.int ((k : Nat) : Int) u) (.str (Txt.slice (S r) none (some (-1))) u2)) Q E s := by
  have hl := get_lt hX
  exact rl_setS F N (slice_cut r) (.head off) hz (by omega) (by omega) fun h' F' N' => h h' _ n F' N' (told_cut hX)
theorem turn_off {iI x y a b : Addr} {o1 o2 o3 o4 : Obj} (h1 : @Ne Nat iI x) (h2 : @Ne Nat y x) (h3 : @LT.lt Nat _ a x) (h4 : @LT.lt Nat _ b x) : ∀ p ∈ [(iI, o1), (y, o2), (a, o3), (b, o4)], p.1 ≠ x := fun p hp => by
  simp only [List.mem_cons, List.not_mem_nil, or_false] at hp
  rcases hp with rfl | rfl | rfl | rfl
  · exact h1
  · exact h2
  · exact Nat.ne_of_lt h3
  · exact Nat.ne_of_lt h4
theorem turn_m1 {α : Type} {d i x y a b p : α} (h : p ∈ [x, i, y, a, b]) : p ∈ [d, i, x, y, a, b] := by
  simp only [List.mem_cons, List.not_mem_nil, or_false] at h ⊢
  rcases h with h | h | h | h | h <;> simp [h]
theorem turn_m2 {α : Type} {i x y a b p : α} (h : p ∈ [y, i, x, a, b]) : p ∈ [x, i, y, a, b] := by
  simp only [List.mem_cons, List.not_mem_nil, or_false] at h ⊢
  rcases h with h | h | h | h | h <;> simp [h]
theorem turn_m3 {α : Type} {d e i x y a b p : α} (h : p ∈ [i, x, y, a, b]) : p ∈ [d, e, y, i, x, a, b] := by
  simp only [List.mem_cons, List.not_mem_nil, or_false] at h ⊢
  rcases h with h | h | h | h | h <;> simp [h]
theorem turn_ap {iI x y a b : Addr} {oI o1 o2 o3 o4 : Obj} (a1 : @Ne Nat iI x) (a2 : @Ne Nat iI y) (a3 : @Ne Nat iI a) (a4 : @Ne Nat iI b) : ∀ p ∈ [(x, o1), (y, o2), (a, o3), (b, o4)], ∀ q ∈ [(iI, oI)], p.1 ≠ q.1 := fun p hp q hq => by
  rw [List.mem_singleton.mp hq]
  simp only [List.mem_cons, List.not_mem_nil, or_false] at hp
  rcases hp with rfl | rfl | rfl | rfl
  · exact Ne.symm a1
  · exact Ne.symm a2
  · exact Ne.symm a3
  · exact Ne.symm a4
end Mine
end
section
-- B0
open PySem PySem.W PyProof.Rows PySem.Spec PySem.Calls PyProof.Rows.LCg PyProof.Rows.LCt
set_option maxRecDepth 100000
set_option maxHeartbeats 4000000
namespace Mine

def lawB : List Stmt := match stAt 62 with
  | .FunctionDef _ _ b _ _ _ _ _ _ _ => b
  | _ => []
def lawSc : Scope := match stAt 62 with
  | .FunctionDef _ _ _ _ _ _ sc _ _ _ => sc
  | _ => default
end Mine
end
section
-- B3
open PySem PySem.W PyProof.Rows PySem.Spec PySem.Calls PyProof.Rows.LCg PyProof.Rows.LCt
set_option maxRecDepth 100000
set_option maxHeartbeats 4000000
namespace Mine

local macro_rules | `(tactic| walk_at "exec For Name Constant cons nil") => `(tactic| k_extra "exec For Name Constant cons nil")
local macro_rules | `(tactic| walk_at "pyIter str") => `(tactic| k_extra "pyIter str")
local macro_rules | `(tactic| walk_at "storeName") => `(tactic| k_extra "storeName")
local macro_rules | `(tactic| walk_at "eval ListComp") => `(tactic| k_extra "eval ListComp")
local macro_rules | `(tactic| walk_at "call type:enumerate") => `(tactic| k_extra "call type:enumerate")
local macro_rules | `(tactic| walk_at "pyIter ref") => `(tactic| k_extra "pyIter ref")
local macro_rules | `(tactic| walk_at "subscriptTail Name Constant ref int") => `(tactic| k_extra "subscriptTail Name Constant ref int")
local macro_rules | `(tactic| walk_at "subscriptTail Name Name ref int") => `(tactic| k_extra "subscriptTail Name Name ref int")
local macro_rules | `(tactic| walk_at "setItem ref int") => `(tactic| k_extra "setItem ref int")
local macro_rules | `(tactic| walk_at "call ref") => `(tactic| k_extra "call ref")
local macro_rules | `(tactic| walk_at "compareOp NotEq ref ref") => `(tactic| k_extra "compareOp NotEq ref ref")
local macro_rules | `(tactic| walk_at "call builtin:len") => `(tactic| k_extra "call builtin:len")
theorem law_b3 (w : World) (o1 o2 : Obj) (wl : List Nat) (tw : Tok) (m : Str → Option Value) (xR xT : Addr) (rt tt : RT) (nR nT : Nat) (mean : ExcName → Option Value) (mg mb : Str → Option Value) (dp un : Nat) (gd : Option (List Code)) (fa : Addr) (cdv : Value) (outer : List Env) (A₀ : Around) (base h₀ : Heap) (L : Addr) (s : Shared) (Q : Flow → Shared → Prop) (E : Value → Shared → Prop)
    (B : Below A₀ base outer h₀) (F : Fr h₀ L s.heap (m)) (X : (Kf w.params).In h₀) (N : News h₀ L s.heap ([(xT, rowsO tt nT), (xR, rowsO rt nR), (L + 1 + 1, o1), (L + 1, o2)])) (T : Top Qv Loo mean mg mb h₀)
    (d1 : o1.data = .cell none) (d2 : o2.data = .cell (some (.str (S wl) tw))) (h5 : wl.length = 5) (hmR : m (Str.ofString "rows") = some (.ref xR)) (hmT : m (Str.ofString "told") = some (.ref xT)) (hLR : @LT.lt Nat _ (L + 1 + 1) xR) (hLT : @LT.lt Nat _ (L + 1 + 1) xT) (hRT : @Ne Nat xR xT) (hgo : backsGo [69, 68, 67, 66, 65] ⟨rt.map (·.1), tt.map (·.1), []⟩ = true) (hbk : (backs [69, 68, 67, 66, 65] ⟨rt.map (·.1), tt.map (·.1), []⟩).back = wl) (hPO : PassesOwn (model pw w) (ktrTop dp un gd (Str.ofString "law") lawSc L fa cdv (cellsFrom (L + 1) lawSc.names []) outer) (envOfC (Str.ofString "law") lawSc L fa cdv) E) (hdp : dp + 60 < recursionLimit) (hu : un + 1200 < cLine)
    (hret : ∀ (h' : Heap) (tk' : Nat) (dr' : Drawn) (m' : Str → Option Value), Fr h₀ L h' m' → Q (.ret (.bool true)) { s with heap := h', toks := tk', drawn := dr' }) :
    wpAny (model pw w) (ktrTop dp un gd (Str.ofString "law") lawSc L fa cdv (cellsFrom (L + 1) lawSc.names []) outer) (execs (lawB.drop 6) (envOfC (Str.ofString "law") lawSc L fa cdv)) Q E s := by
  conv in lawB.drop 6 => whnf
  conv in (occs := *) lawSc => all_goals whnf
  conv at hPO in (occs := *) lawSc => all_goals whnf
  (try k_fold)
  k_with_none
  have hSl := S_length wl
  (k_with "exec For Name Constant cons nil" => ((rename Fr _ _ _ _ => lF'); (with_unfolding_all refine' For_D lF' ?_ (hE := hPO)); k_whole))
  (k_with "pyIter str" => (
    ((with_reducible show wpAny _ _ (pyIter (Value.str _ _)) (fun it s₂ => TurnsD _ _ _ _ _ _ _ _ it s₂) _ _); k_here)
    (rename Fr _ _ _ _ => lF'); (rename News _ _ _ _ => lN')
    (
    (with_unfolding_all refine' iter_strD (by rfl) lF' lN' (BackI L xR xT wl o2 m) ?h0 ?_ ?_);
    (case h0 => exact ⟨rt, tt, nR, nT, o1, none, [], _, ⟨rfl, d1, hgo, hbk, by rw [← S_nil]; exact if_pos rfl, fun z h1 h2 => (if_neg h1).trans (back_m hmR hmT z)⟩⟩);
    (all_goals (try clear lF' lN')))
    (all_goals first
      | (rintro iI cN iN hI kI uI drI mI nI hiN hcN ⟨rt1, tt1, nR1, nT1, oT, v1, bk, tb, hV⟩ FI oI hcI NI hap; (obtain rfl := hV.led); (obtain ⟨hcA, hcL⟩ := turn_at hcN); (obtain ⟨hB, hGo2, hFin2⟩ := hV.facts hcA); (replace FI := fr_back FI hV.back hV.rest); (try simp only [List.cons_append, List.nil_append] at NI); (have a1 : @Ne Nat iI xT := Ne.symm (hap _ (.head _) _ (.head _))); (have a2 : @Ne Nat iI xR := Ne.symm (hap _ (.tail _ (.head _)) _ (.head _))); (have a3 : @Ne Nat iI (L + 1 + 1) := Ne.symm (hap _ (.tail _ (.tail _ (.head _))) _ (.head _))); (have a4 : @Ne Nat iI (L + 1) := Ne.symm (hap _ (.tail _ (.tail _ (.tail _ (.head _)))) _ (.head _))); (have dC := hV.cell); (have hz1 := sizeOk_len hB.s1); (have hz2 := sizeOk_len hB.s2); (have kT1 : (hitsL (tt1.map (·.1)) cN).headD 0 < tt1.length := by simpa using hB.kT); (have kR1 : (hitsL (tt1.map (·.1)) cN).headD 0 < rt1.length := by simpa using hB.kR); (have hNe : ∀ p ∈ rt1, p.1 ≠ [] := fun p hp => hB.ne _ (List.mem_map.mpr ⟨p, hp, rfl⟩)); (have hsl : (S (takeOut (rt1.map (·.1)) (((hitsL (tt1.map (·.1)) cN).headD 0 : Nat) : Int).toNat).2).length ≤ 5 := by rw [S_length]; exact hB.sl); (have hOk : takeOutOk (rt1.map (·.1)) ((((hitsL (tt1.map (·.1)) cN).headD 0 : Nat) : Int).toNat) = true := hB.ok); (have hbl : (S bk).length ≤ 5 := by rw [S_length]; exact hB.bl))
      | (rintro mI nI hI kI drI ⟨rt1, tt1, nR1, nT1, oT, v1, bk, tb, hV⟩ FI NI; (obtain rfl := hV.led); (replace FI := fr_back FI hV.back hV.rest)))
    (all_goals (try k_fold))))
  (k_with "storeName" => ((k_dflt (refine' storeX_C (c := L + 1 + 1) (news := [(iI, oI), (xT, rowsO tt1 nT1), (xR, rowsO rt1 nR1), (L + 1 + 1, oT), (L + 1, o2)]) ?F ?N ?c (.tail a3 (.tail (Nat.ne_of_gt hLT) (.tail (Nat.ne_of_gt hLR) (.head (fun p hp => by rw [List.mem_singleton.mp hp]; exact Nat.ne_of_lt (Nat.lt_succ_self _)))))) dC ?_ ?a ?b; (case a => rfl); (case b => rfl); (case c => rfl)); (case F => (k_dflt k_asm)); (case N => (k_dflt k_asm)); intro h9' oT2 F9' N9' d8'; (try dsimp only at N9'))))
  (k_with "eval ListComp" => first
    | ((with_reducible show wpAny _ _ (eval (PySem.Expr.ListComp _ [⟨PySem.Expr.Name _ _, _, [], _⟩] _ _) _) _ _ _); (k_dflt (refine ListComp_W (by k_asm) (by rfl) (by decide) (by rfl) (by decide) (by rfl) ?_)))
    | ((with_reducible show wpAny _ _ (eval (PySem.Expr.ListComp _ [⟨PySem.Expr.Name _ _, _, [_], _⟩] _ _) _) _ _ _); (k_dflt (refine ListComp_WT (by k_asm) (by rfl) (by decide) (by rfl) (by decide) (by rfl) ?_)))
    | ((with_reducible show wpAny _ _ (eval (PySem.Expr.ListComp _ [⟨PySem.Expr.Tuple _ _ _, _, [_], _⟩] _ _) _) _ _ _); (k_dflt (refine ListComp_E (by k_asm) (by rfl) (by decide) (by rfl) (by decide) (by rfl) (by rfl) (by decide +kernel) ?_))))
  (k_with "call type:enumerate" => (
    (
    (k_dflt (refine src_enumE (vs := tv tt1) (k := nT1) (by rfl) (by k_asm) (by k_asm) (by k_mem) (by rw [tv_length, sizeLine_eq]; omega) ?_));
    (intro g'; (try dsimp only); k_dflt (refine comp_hits cN ?_ ?_)))
    (all_goals first
      | (intro jC rC tC uC ysC hrC IC oIC CC oCC DC mC iC oiC hC' tkC EC hNC hmC hmC2 FC' NC' offC neC; (have hrl := S_length rC); (have hrb := row_len5 hB.s2 hrC); (try k_fold))
      | (intro ysF hIF D11 h11 tk11 F11 N11 o11; (try k_fold)))))
  (k_with "subscriptTail Name Constant ref int" => (k_dflt (refine head_item (by k_asm) (by k_mem) (by assumption) hB.hit ?_); intro tH))
  (k_with "subscriptTail Name Name ref int" => (k_dflt (refine rl_item (rt := tt1) (by k_asm) (by k_mem) (by omega) (by omega) (by omega) ?_); intro rX tX hX; (have hXl := S_length rX); (have hXb := row_len5 hB.s2 hX)))
  (k_with "setItem ref int" => (
    (k_dflt (refine cut_store (tt1 := tt1) (n := nT1) (rest := [(iI, oI), (xR, rowsO rt1 nR1), (L + 1 + 1, oT2), (L + 1, o2)]) (by k_asm) (cb_drop (by assumption) (fun p hp => turn_m1 hp)) (turn_off a1 hRT hLT (by omega)) hX (by omega) ?_)); intro h9' tt2 nT2 F9' N9' eT2))
  (k_with "call ref" => first
    | (
    ((with_reducible show wpAny _ _ (call (Value.ref 360) _) _ _ _); k_here)
    (
    k_dflt (refine' taken_out_ok _ [(iI, oI), (xT, rowsO tt2 nT2), (L + 1 + 1, oT2), (L + 1, o2)] xR nR1 rt1 _ _ (turn_off a2 (Ne.symm hRT) hLR (by omega)) hz1 (sizeOk_row hB.s1) (by omega) (by omega) hNe hOk _ _ _ _ _ _ _ _ _ _ _ _ _ _ _ _ _ _ _ _ ?k1 ?k2 ?k3 ?k4 ?k5 ?k6 ?k7 ?k8 ?_; (case k1 => k_asm); (case k2 => k_asm); (case k3 => k_asm); (case k5 => k_asm); (case k6 => first | exact rfl | assumption); (case k7 => ktr_room); (case k8 => ktr_units); (case k4 => exact cb_drop (by assumption) (fun p hp => turn_m2 hp)));
    (intro rt2 nR2 tr2 eR2 h9 tk9 F9 N9); (try dsimp only); (try k_fold)))
    | (
    ((with_reducible show wpAny _ _ (call (Value.ref 365) _) _ _ _); k_here)
    (
    k_dflt (refine' rises_ok _ [(iI, oI), (xT, rowsO tt2 nT2), (L + 1 + 1, oT2), (L + 1, o2)] xR nR2 rt2 (turn_off a2 (Ne.symm hRT) hLR (by omega)) (sizeOk_len (by rw [eR2]; exact hB.s3)) (sizeOk_row (by rw [eR2]; exact hB.s3)) (sizeOk_low (by rw [eR2]; exact hB.s3)) (by rw [eR2]; exact hB.ri) _ _ _ _ _ _ _ _ _ _ _ _ _ _ _ _ _ _ _ _ ?k1 ?k2 ?k3 ?k4 ?k5 ?k6 ?k7 ?k8 ?_; (case k1 => k_asm); (case k2 => k_asm); (case k3 => k_asm); (case k5 => k_asm); (case k6 => first | exact rfl | assumption); (case k7 => ktr_room); (case k8 => ktr_units); (case k4 => k_asm));
    (intro h8 tk8 dr8 F8 N8); (try dsimp only); (try k_fold))))
  (k_with "pyIter ref" => (
    ((with_reducible show wpAny _ _ (pyIter (Value.ref _)) (SrcW _ _ _ _ _ _ _) _ _); k_here)
    (k_dflt (refine src_list (by rfl) (by k_asm) (by k_asm) (by k_mem) (by rw [List.size_toArray, tv_length, sizeLine_eq]; first | (have := sizeOk_len (rt := rt2) (by rw [eR2]; exact hB.s3); omega) | (have := sizeOk_len (rt := tt2) (by rw [eT2]; exact hB.s4); omega)) ?_))
    (intro g'; (try dsimp only); k_dflt (first | refine comp_lens ?_ ?_ | refine comp_lensT ?_ ?_))
    (all_goals first
      | (intro iC rC tC ysC hrC IC oIC CC oCC DC mC hC' tkC EC hNC hmC FC' NC' offC neC; (have hrl := S_length rC); (have hrb : (S rC).length ≤ 60 := row_len5 (by first | (rw [eR2]; exact hB.s3) | (rw [eT2]; exact hB.s4)) hrC); (try k_fold))
      | (intro ysF hIF D11 h11 tk11 F11 N11 o11; (try k_fold)))))
  (k_with "compareOp NotEq ref ref" => (k_dflt (refine ne_lst (by k_asm) (by k_mem) (by k_mem) (by assumption) (by assumption) ?_ ?_ ?_)))
  k_steps
  · exact last_eq _ _
  · exact LCg.CompEnd.intro (by assumption) (by assumption) _ (fun p hp => hp) offC rfl ⟨_, rfl⟩
  · exact LCg.CompEnd.intro (by assumption) (by assumption) _ (fun p hp => hp) offC rfl trivial
  · exact LCg.CompEnd.intro (by assumption) NC' _ (fun p hp => hp) offC (by k_mem) ⟨rfl, _, congrArg (fun n : Nat => Value.int (n : Int) _) hrl⟩
  · exact row_ne _
  · exact LCg.CompEnd.intro (by assumption) NC' _ (fun p hp => hp) offC (by k_mem) ⟨rfl, _, congrArg (fun n : Nat => Value.int (n : Int) _) hrl⟩
  · exact LCg.CompEnd.intro (by assumption) NC' _ (fun p hp => hp) offC (by k_mem) rfl
  · (rw [eR2, eT2]; exact lens_of hB.le)
  · refine ⟨_, _, _, _, [(xT, rowsO tt2 nT2), (xR, rowsO rt2 nR2), (L + 1 + 1, oT2), (L + 1, o2)], rfl, (by assumption), cb_drop (by assumption) (fun p hp => turn_m3 hp), turn_ap a1 a2 a3 a4, (fun p hp => by cases hp), ⟨rt2, tt2, nR2, nT2, oT2, _, _, _, ⟨rfl, d8', ?go9, ?fin9, (if_pos rfl).trans (congrArg (fun z => some (Value.str z _)) (S_append _ _)), ?rest9⟩⟩⟩
    (case go9 => rw [eR2, eT2]; exact hGo2)
    (case fin9 => rw [eR2, eT2]; exact hFin2)
    (case rest9 => intro z h1 h2; simp only [if_neg h1, if_neg h2])
  · show Q (Flow.ret (Value.bool (S bk == S wl))) _
    have hf := hV.fin
    rw [turn_size] at hf
    have e : bk = wl := hf
    rw [e, same_S]
    exact hret _ _ _ _ (by assumption)
end Mine
end
section
-- B2
open PySem PySem.W PyProof.Rows PySem.Spec PySem.Calls PyProof.Rows.LCg PyProof.Rows.LCt
set_option maxRecDepth 100000
set_option maxHeartbeats 4000000
namespace Mine

local macro_rules | `(tactic| walk_at "execs cons") => `(tactic| k_extra "execs cons")
local macro_rules | `(tactic| walk_at "call ref") => `(tactic| k_extra "call ref")
local macro_rules | `(tactic| walk_at "eval ListComp") => `(tactic| k_extra "eval ListComp")
local macro_rules | `(tactic| walk_at "pyIter str") => `(tactic| k_extra "pyIter str")
local macro_rules | `(tactic| walk_at "call builtin:str.index") => `(tactic| k_extra "call builtin:str.index")
local macro_rules | `(tactic| walk_at "call builtin:str.join") => `(tactic| k_extra "call builtin:str.join")
local macro_rules | `(tactic| walk_at "compareOp Eq ref ref") => `(tactic| k_extra "compareOp Eq ref ref")
local macro_rules | `(tactic| walk_at "compareOp NotEq ref ref") => `(tactic| k_extra "compareOp NotEq ref ref")
local macro_rules | `(tactic| walk_at "subscriptTail Name Constant ref int") => `(tactic| k_extra "subscriptTail Name Constant ref int")
local macro_rules | `(tactic| walk_at "call builtin:len") => `(tactic| k_extra "call builtin:len")
theorem law_b2 (w : World) (o1 o2 : Obj) (wl : List Nat) (tw : Tok) (m : Str → Option Value) (mean : ExcName → Option Value) (mg mb : Str → Option Value) (dp un : Nat) (gd : Option (List Code)) (fa : Addr) (cdv : Value) (outer : List Env) (A₀ : Around) (base h₀ : Heap) (L : Addr) (s : Shared) (Q : Flow → Shared → Prop) (E : Value → Shared → Prop)
    (B : Below A₀ base outer h₀) (F : Fr h₀ L s.heap (m)) (X : (Kf w.params).In h₀) (N : News h₀ L s.heap ([(L + 1 + 1, o1), (L + 1, o2)])) (T : Top Qv Loo mean mg mb h₀)
    (d1 : o1.data = .cell none) (d2 : o2.data = .cell (some (.str (S wl) tw))) (hw : lawOk wl = true) (hPO : PassesOwn (model pw w) (ktrTop dp un gd (Str.ofString "law") lawSc L fa cdv (cellsFrom (L + 1) lawSc.names []) outer) (envOfC (Str.ofString "law") lawSc L fa cdv) E) (hdp : dp + 60 < recursionLimit) (hu : un + 1200 < cLine)
    (hret : ∀ (h' : Heap) (tk' : Nat) (dr' : Drawn) (m' : Str → Option Value), Fr h₀ L h' m' → Q (.ret (.bool true)) { s with heap := h', toks := tk', drawn := dr' }) :
    wpAny (model pw w) (ktrTop dp un gd (Str.ofString "law") lawSc L fa cdv (cellsFrom (L + 1) lawSc.names []) outer) (execs (lawB.drop 2) (envOfC (Str.ofString "law") lawSc L fa cdv)) Q E s := by
  conv in lawB.drop 2 => whnf
  conv in (occs := *) lawSc => all_goals whnf
  conv at hPO in (occs := *) lawSc => all_goals whnf
  (try k_fold)
  k_with_none
  have hF := lawFacts hw
  have h5 := hF.h5
  have hSl := S_length wl
  (k_with "execs cons" => (
    ((with_reducible show wpAny _ _ (execs (Stmt.Assign [PySem.Expr.Name (Str.ofString "back") _] _ _ :: _) _) _ _ _); k_here)
    (
    k_dflt (refine' law_b3 w o1 o2 wl tw _ dR dT rt tt nR nT mean mg mb dp un gd fa cdv outer A₀ base h₀ L _ _ _ B ?f X (cb_drop ?n (fun p hp => ?mem)) T d1 d2 h5 ?r1 ?r2 q3 q4 q6 (by rw [eR, eT]; exact hF.go) (by rw [eR, eT]; exact hF.back) hPO hdp hu (fun h' tk' dr' m' F' => hret h' tk' dr' m' F'); (case f => k_asm); (case n => k_asm); (case r1 => with_unfolding_all rfl); (case r2 => with_unfolding_all rfl); (case mem => (simp only [List.mem_cons, List.not_mem_nil, or_false] at hp ⊢; rcases hp with h | h | h | h <;> simp [h]))))))
  (k_with "call ref" => first
    | (
    ((with_reducible show wpAny _ _ (call (Value.ref 370) [Value.str (S wl) _]) _ _ _); k_here)
    (
    k_dflt (refine' tables_ok _ _ wl _ hF.h5 hF.ok _ _ _ _ _ _ _ _ _ _ _ _ _ _ _ _ _ _ _ _ ?k1 ?k2 ?k3 ?k4 ?k5 ?k6 ?k7 ?k8 ?_; (case k1 => k_asm); (case k2 => k_asm); (case k3 => k_asm); (case k5 => k_asm); (case k6 => first | exact rfl | assumption); (case k7 => ktr_room); (case k8 => ktr_units); (case k4 => k_asm));
    (intro D1 dR dT nR nT rt tt hlt hRT hDR hDT eR eT h9 tk9 dr9 F9 N9); (have hz1 := sizeOk_len (rt := rt) (by rw [eR]; exact hF.s1)); (have hz0 := rows_pos eR hF.ne); (have q1 := hlt _ (.head _)); (have q2 := hlt _ (.tail _ (.head _))); (have q3 : @LT.lt Nat _ (L + 1 + 1) dR := q1.1); (have q4 : @LT.lt Nat _ (L + 1 + 1) dT := q1.2.1); (have q5 : @LT.lt Nat _ (L + 1 + 1) D1 := q1.2.2); (have q6 : @Ne Nat dR dT := hRT); (have q7 : @Ne Nat D1 dR := hDR); (have q8 : @Ne Nat D1 dT := hDT); (try dsimp only); (try k_fold)))
    | (
    ((with_reducible show wpAny _ _ (call (Value.ref 370) [Value.str (S (placesL wl)) _]) _ _ _); k_here)
    (
    k_dflt (refine' tables_ok _ _ (placesL wl) _ (places_len wl) hF.ok2 _ _ _ _ _ _ _ _ _ _ _ _ _ _ _ _ _ _ _ _ ?k1 ?k2 ?k3 ?k4 ?k5 ?k6 ?k7 ?k8 ?_; (case k1 => k_asm); (case k2 => k_asm); (case k3 => k_asm); (case k5 => k_asm); (case k6 => first | exact rfl | assumption); (case k7 => ktr_room); (case k8 => ktr_units); (case k4 => k_asm));
    (intro D2 dR2 dT2 nR2 nT2 rt2 tt2 hlt2 hRT2 hDR2 hDT2 eR2 eT2 h9 tk9 dr9 F9 N9); (rw [hF.eq2] at eR2 eT2); (try dsimp only at eR2 eT2); (try dsimp only); (try k_fold)))
    | (
    ((with_reducible show wpAny _ _ (call (Value.ref 375) [_, Value.bool true]) _ _ _); k_here)
    (
    k_dflt (refine' longest_true _ _ wl _ hF.h5 hF.low _ _ _ _ _ _ _ _ _ _ _ _ _ _ _ _ _ _ _ _ ?k1 ?k2 ?k3 ?k4 ?k5 ?k6 ?k7 ?k8 ?_; (case k1 => k_asm); (case k2 => k_asm); (case k3 => k_asm); (case k5 => k_asm); (case k6 => first | exact rfl | assumption); (case k7 => ktr_room); (case k8 => ktr_units); (case k4 => k_asm));
    (intro tr9 h9 tk9 dr9 F9 N9); (try dsimp only); (try k_fold)))
    | (
    ((with_reducible show wpAny _ _ (call (Value.ref 375) [_, Value.bool false]) _ _ _); k_here)
    (
    k_dflt (refine' longest_false _ _ wl _ hF.h5 hF.low _ _ _ _ _ _ _ _ _ _ _ _ _ _ _ _ _ _ _ _ ?k1 ?k2 ?k3 ?k4 ?k5 ?k6 ?k7 ?k8 ?_; (case k1 => k_asm); (case k2 => k_asm); (case k3 => k_asm); (case k5 => k_asm); (case k6 => first | exact rfl | assumption); (case k7 => ktr_room); (case k8 => ktr_units); (case k4 => k_asm));
    (intro tr8 h8 tk8 dr8 F8 N8); (try dsimp only); (try k_fold))))
  (k_with "eval ListComp" => (k_dflt (refine ListComp_W (by k_asm) (by rfl) (by decide) (by rfl) (by decide) (by rfl) ?_)))
  (k_with "pyIter str" => (
    ((with_reducible show wpAny _ _ (pyIter (Value.str _ _)) (SrcW _ _ _ _ _ _ _) _ _); k_here)
    (
    (k_dflt (refine src_abc (by rfl) (by k_asm) (by k_asm) ?_));
    (intro g'; (try dsimp only); refine comp_places (l := wl) ?_ ?_))
    (all_goals first
      | (intro cC tC ysC hcC IC oIC CC oCC DC mC hC' tkC EC hNC hmC FC' NC' offC neC; (have hIn := hF.has cC hcC); (have hIx := idx_lt hF.h5 hIn); (try k_fold))
      | (intro rtP hP D11 h11 tk11 F11 N11 o11; (try k_fold)))))
  (k_with "call builtin:str.index" => (k_dflt (refine index_S hIn ?_)))
  (k_with "call builtin:str.join" => (k_dflt (refine join_places (lst_list (by k_asm) (by k_mem)) hP ?_); intro t9 k9))
  (k_with "compareOp Eq ref ref" => (k_dflt (refine eq_part (r1 := rt) (r2 := []) (x := (tabs wl 0 [] []).1) (y := []) (rl_isList (by k_asm) (by k_mem)) (by is_list) eR rfl (size_low hF.s1) (by intro p hp; cases hp) (decide_eq_false hF.ne) (by first | units_room | ktr_units | omega) ?_)))
  (k_with "compareOp NotEq ref ref" => first
    | (k_dflt (refine ne_pair (News.get (by k_asm) (by k_mem)) (News.get (by k_asm) (by k_mem)) (rl_isList (rt := rt2) (by k_asm) (by k_mem)) (rl_isList (rt := tt2) (by k_asm) (by k_mem)) (rl_isList (rt := tt) (by k_asm) (by k_mem)) (rl_isList (rt := rt) (by k_asm) (by k_mem)) eR2 eT2 eT eR (size_low hF.s2) (size_low hF.s1) (by first | units_room | ktr_units | omega) ?_))
    | (k_dflt (refine ne_two (News.get (by k_asm) (by k_mem)) (News.get (by k_asm) (by k_mem)) (head_len eR hX0 hF.up) (rows_len eR hF.down) (by first | units_room | ktr_units | omega) ?_)))
  (k_with "subscriptTail Name Constant ref int" => (k_dflt (refine rl_item (rt := rt) (by k_asm) (by k_mem) (by omega) (by omega) (by omega) ?_); intro rX0 tX0 hX0; (have hrb := row_len5 (rt := rt) (by rw [eR]; exact hF.s1) hX0)))
  (k_with "call builtin:len" => (k_dflt (refine rl_len (rt := rt) (by k_asm) (by k_mem) (by omega) ?_)))
  k_steps
  exact LCg.CompEnd.intro (by assumption) NC' _ (fun p hp => hp) offC trivial ⟨rfl, _, congrArg (fun z => Value.str z _) (item_abc hIx)⟩
end Mine
end
section
-- B1
open PySem PySem.W PyProof.Rows PySem.Spec PySem.Calls PyProof.Rows.LCg PyProof.Rows.LCt
set_option maxRecDepth 100000
set_option maxHeartbeats 4000000
namespace Mine

local macro_rules | `(tactic| walk_at "exec For Name Tuple cons nil") => `(tactic| k_extra "exec For Name Tuple cons nil")
local macro_rules | `(tactic| walk_at "call ref") => `(tactic| k_extra "call ref")
local macro_rules | `(tactic| walk_at "pyIter ref") => `(tactic| k_extra "pyIter ref")
local macro_rules | `(tactic| walk_at "subscriptTail Name Name str int") => `(tactic| k_extra "subscriptTail Name Name str int")
theorem many_at {a b c d e : Tok} {i : Nat} {v : Value} (h : #[Value.int 5 a, Value.int 4 b, Value.int 3 c, Value.int 2 d, Value.int 1 e][i]? = some v) : i < 5 ∧ ∃ t, v = .int (5 - (i : Int)) t := by
  match i, h with
  | 0, h => exact ⟨by decide, _, (Option.some.inj h).symm⟩
  | 1, h => exact ⟨by decide, _, (Option.some.inj h).symm⟩
  | 2, h => exact ⟨by decide, _, (Option.some.inj h).symm⟩
  | 3, h => exact ⟨by decide, _, (Option.some.inj h).symm⟩
  | 4, h => exact ⟨by decide, _, (Option.some.inj h).symm⟩
  | n + 5, h => simp at h
theorem fr_left {h₀ h : Heap} {L : Addr} {m₁ m : Str → Option Value} {x y z : Str} {v : Value} (F : Fr h₀ L h m₁) (e1 : m₁ x = some v) (e : ∀ q, q ≠ x → q ≠ y → q ≠ z → m₁ q = m q) : Fr h₀ L h (fun q => if q = x then some v else if q = y then m₁ q else if q = z then m₁ q else m q) := by
  have : (fun q => if q = x then some v else if q = y then m₁ q else if q = z then m₁ q else m q) = m₁ := by
    funext q
    by_cases h : q = x
    · rw [if_pos h, h, e1]
    · rw [if_neg h]
      by_cases h2 : q = y
      · rw [if_pos h2]
      · rw [if_neg h2]
        by_cases h3 : q = z
        · rw [if_pos h3]
        · rw [if_neg h3, e q h h2 h3]
  rw [this]; exact F
theorem S_abc : Str.ofString "ABCDE" = S [65, 66, 67, 68, 69] := by decide +kernel

theorem with1 {G : Prop} {h₀ h : Heap} {L a : Addr} {x : Obj} {news : List (Addr × Obj)} (Nu : News h₀ L h ((a, x) :: news)) (k : ∀ a', a' = a → G) : G := k a rfl
structure DrawInv (L aX la : Addr) (o1 : Obj) (i : Nat) (m₁ : Str → Option Value) (news₁ : List (Addr × Obj)) (oX ow : Obj) (bg d5 : Addr) (ws5 : List Value) (ns5 : List Int) (kB : Nat) (tb tw tl : Tok) (wl ll : List Nat) : Prop where
  led : news₁ = [(aX, oX), (bg, listOf [Value.ref d5, .int (i : Int) tb].toArray kB), (d5, listOf ws5.toArray 0), (L + 1 + 1, o1), (L + 1, ow)]
  isI : IntsAre ws5 ns5
  len : ns5.length ≤ 5
  word : ow.data = .cell (some (.str (S wl) tw))
  in_ : (wl, ll) ∈ reachN i
  bd : @LT.lt Nat _ d5 bg
  dL : @LT.lt Nat _ (L + 1 + 1) d5
  ba : @LT.lt Nat _ bg aX
  left : m₁ (Str.ofString "left") = some (.str (S ll) tl)
  rest : ∀ z, z ≠ Str.ofString "left" → z ≠ Str.ofString "many" → z ≠ Str.ofString "at" → m₁ z = if z = Str.ofString "bag" then some (.ref bg) else if z = Str.ofString "script" then some (.ref la) else none
abbrev DrawI (L aX la : Addr) (o1 : Obj) (i : Nat) (m₁ : Str → Option Value) (news₁ : List (Addr × Obj)) : Prop := ∃ oX ow bg d5 ws5 ns5 kB tb tw tl wl ll, DrawInv L aX la o1 i m₁ news₁ oX ow bg d5 ws5 ns5 kB tb tw tl wl ll
theorem draw_off {iI aX bg a b : Addr} {o1 o2 o3 o4 : Obj} (h1 : @Ne Nat iI bg) (h2 : @LT.lt Nat _ bg aX) (h3 : @LT.lt Nat _ a bg) (h4 : @LT.lt Nat _ b bg) : ∀ p ∈ [(iI, o1), (aX, o2), (a, o3), (b, o4)], p.1 ≠ bg := fun p hp => by
  simp only [List.mem_cons, List.not_mem_nil, or_false] at hp
  rcases hp with rfl | rfl | rfl | rfl
  · exact h1
  · exact Nat.ne_of_gt h2
  · exact Nat.ne_of_lt h3
  · exact Nat.ne_of_lt h4
theorem draw_mem {α : Type} {b d i a x y p : α} (h : p ∈ [b, d, i, a, x, y]) : p ∈ [i, a, b, d, x, y] := by
  simp only [List.mem_cons, List.not_mem_nil, or_false] at h ⊢
  rcases h with h | h | h | h | h | h <;> simp [h]
theorem left_is (ll : List Nat) (k : Int) (h : 0 ≤ k) : Txt.slice (S ll) none (some k) ++ Txt.slice (S ll) (some (k + 1)) none = S (ll.take k.toNat ++ ll.drop (k.toNat + 1)) := by
  rw [slice_left _ _ h, slice_from _ _ (by omega), S_append, show (k + 1).toNat = k.toNat + 1 by omega]
theorem word_is (wl ll : List Nat) (k : Int) (h : 0 ≤ k) (h1 : k < ll.length) : S wl ++ Txt.item (S ll) k = S (wl ++ [ll.getD k.toNat 0]) := by
  rw [item_S ll k h h1, S_append]
theorem mem_first {a : Addr} {o oX : Obj} {r r' : List (Addr × Obj)} (h : (a, o) ∈ (a, oX) :: r) (off : ∀ p ∈ r, p.1 ≠ a) : (a, o) ∈ (a, oX) :: r' := by
  rcases List.mem_cons.mp h with q | q
  · rw [q]; exact .head _
  · exact absurd rfl (off _ q)
theorem draw_end {α : Type} {i a b d x y t p : α} (h : p ∈ [i, a, b, d, x, y]) : p ∈ [t, b, d, i, a, x, y] := by
  simp only [List.mem_cons, List.not_mem_nil, or_false] at h ⊢
  rcases h with h | h | h | h | h | h <;> simp [h]
theorem draw_ap {iI aX bg d5 e f : Addr} {oI oX o1 o2 o3 o4 : Obj} (a1 : @Ne Nat iI aX) (a2 : @Ne Nat iI bg) (a3 : @Ne Nat iI d5) (a4 : @Ne Nat iI e) (a5 : @Ne Nat iI f) : ∀ p ∈ [(aX, oX), (bg, o1), (d5, o2), (e, o3), (f, o4)], ∀ q ∈ [(iI, oI)], p.1 ≠ q.1 := fun p hp q hq => by
  rw [List.mem_singleton.mp hq]
  simp only [List.mem_cons, List.not_mem_nil, or_false] at hp
  rcases hp with rfl | rfl | rfl | rfl | rfl
  · exact Ne.symm a1
  · exact Ne.symm a2
  · exact Ne.symm a3
  · exact Ne.symm a4
  · exact Ne.symm a5
theorem draw_off5 {aX bg d5 L : Addr} {o1 o2 o3 o4 : Obj} (b1 : @LT.lt Nat _ d5 bg) (b2 : @LT.lt Nat _ (L + 1 + 1) d5) (b3 : @LT.lt Nat _ bg aX) : ∀ p ∈ [(bg, o1), (d5, o2), (L + 1 + 1, o3), (L + 1, o4)], p.1 ≠ aX := fun p hp => by
  simp only [List.mem_cons, List.not_mem_nil, or_false] at hp
  rcases hp with rfl | rfl | rfl | rfl
  · exact Nat.ne_of_lt b3
  · exact Nat.ne_of_lt (Nat.lt_trans b1 b3)
  · exact Nat.ne_of_lt (Nat.lt_trans b2 (Nat.lt_trans b1 b3))
  · exact Nat.ne_of_lt (Nat.lt_trans (Nat.lt_succ_self _) (Nat.lt_trans b2 (Nat.lt_trans b1 b3)))
theorem drop_2 {α : Type} {a b p : α} {l : List α} (h : p ∈ a :: l) : p ∈ a :: b :: l := by
  rcases List.mem_cons.mp h with rfl | h
  · exact .head _
  · exact .tail _ (.tail _ h)
theorem law_b1 (w : World) (o1 o2 : Obj) (vs : List Value) (ns : List Int) (la : Addr) (mean : ExcName → Option Value) (mg mb : Str → Option Value) (dp un : Nat) (gd : Option (List Code)) (fa : Addr) (cdv : Value) (outer : List Env) (A₀ : Around) (base h₀ : Heap) (L : Addr) (s : Shared) (Q : Flow → Shared → Prop) (E : Value → Shared → Prop)
    (B : Below A₀ base outer h₀) (F : Fr h₀ L s.heap (fun y => if y = Str.ofString "script" then some (.ref la) else none)) (X : (Kf w.params).In h₀) (N : News h₀ L s.heap ([(L + 1 + 1, o1), (L + 1, o2)])) (T : Top Qv Loo mean mg mb h₀)
    (d1 : o1.data = .cell none) (d2 : o2.data = .cell none) (hl : h₀.IsList la vs.toArray) (hi : IntsAre vs ns) (hlen : ns.length ≤ 1048576) (hPO : PassesOwn (model pw w) (ktrTop dp un gd (Str.ofString "law") lawSc L fa cdv (cellsFrom (L + 1) lawSc.names []) outer) (envOfC (Str.ofString "law") lawSc L fa cdv) E) (hdp : dp + 60 < recursionLimit) (hu : un + 1200 < cLine)
    (hret : ∀ (h' : Heap) (tk' : Nat) (dr' : Drawn) (m' : Str → Option Value), Fr h₀ L h' m' → Q (.ret (.bool true)) { s with heap := h', toks := tk', drawn := dr' }) :
    wpAny (model pw w) (ktrTop dp un gd (Str.ofString "law") lawSc L fa cdv (cellsFrom (L + 1) lawSc.names []) outer) (execs (lawB) (envOfC (Str.ofString "law") lawSc L fa cdv)) Q E s := by
  conv in lawB => whnf
  conv in (occs := *) lawSc => all_goals whnf
  conv at hPO in (occs := *) lawSc => all_goals whnf
  (try k_fold)
  k_with_none
  (k_with "exec For Name Tuple cons nil" => ((rename Fr _ _ _ _ => lF'); (with_unfolding_all refine' For_D lF' ?_ (hE := hPO)); k_whole))
  (k_with "pyIter ref" => (
    ((with_reducible show wpAny _ _ (pyIter (Value.ref _)) (fun it s₂ => TurnsD _ _ _ _ _ _ _ _ it s₂) _ _); k_here)
    (rename Fr _ _ _ _ => lF'); (rename News _ _ _ _ => lN')
    (
    (refine with1 lN' (fun aX eX => ?_)); subst eX;
    (with_unfolding_all refine' iter_tupleD (by rfl) lF' (cb_drop lN' (fun p hp => drop_2 hp)) (.head _) (DrawI L aX la o1) ?h0 ?_ ?_);
    (case h0 => exact ⟨_, _, _, _, _, _, _, _, _, _, _, _, ⟨rfl, by assumption, (by rw [List.length_take]; omega), by rw [← S_nil]; assumption, List.Mem.head _, by omega, by omega, by omega, by rw [← S_abc]; rfl, fun z h1 _ _ => by simp only [if_neg h1]⟩⟩);
    (all_goals (try clear lF' lN')))
    (all_goals first
      | (rintro iI iN vN hI kI drI mI nI hiN hvN ⟨oX, ow, bg, d5, ws5, ns5, kB, tb, tw, tl, wl, ll, hV⟩ hKp FI oI hcI NI hap; (obtain rfl := hV.led); (obtain ⟨hi5, tN, rfl⟩ := many_at hvN); (replace FI := fr_left FI hV.left hV.rest); (try simp only [List.cons_append, List.nil_append] at NI); (have a1 : @Ne Nat iI aX := Ne.symm (hap _ (.head _) _ (.head _))); (have a2 : @Ne Nat iI bg := Ne.symm (hap _ (.tail _ (.head _)) _ (.head _))); (have a3 : @Ne Nat iI d5 := Ne.symm (hap _ (.tail _ (.tail _ (.head _))) _ (.head _))); (have a4 : @Ne Nat iI (L + 1 + 1) := Ne.symm (hap _ (.tail _ (.tail _ (.tail _ (.head _)))) _ (.head _))); (have a5 : @Ne Nat iI (L + 1) := Ne.symm (hap _ (.tail _ (.tail _ (.tail _ (.tail _ (.head _))))) _ (.head _))); (have b1 := hV.bd); (have b2 := hV.dL); (have b3 := hV.ba); (have dW := hV.word); (have hRl := reach_long hi5 hV.in_); (have hw1 := hRl.1); (have hw2 := hRl.2); (have hS1 := S_length wl); (have hS2 := S_length ll))
      | (rintro mI nI hI kI drI ⟨oX, ow, bg, d5, ws5, ns5, kB, tb, tw, tl, wl, ll, hV⟩ FI NI; (obtain rfl := hV.led); (replace FI := fr_left FI hV.left hV.rest); (have hDone := True.intro)))
    (all_goals first | ((have hD9 := hDone); clear hDone; with_unfolding_all exact law_b2 w o1 ow wl tw _ mean mg mb dp un gd fa cdv outer A₀ base h₀ L _ Q E B FI X (cb_drop NI (fun p hp => .tail _ (.tail _ (.tail _ hp)))) T d1 hV.word (reach_ok hV.in_) hPO hdp hu (fun h' tk' dr' m' F' => hret h' tk' dr' m' F')) | (try k_fold))))
  (k_with "call ref" => (
    ((with_reducible show wpAny _ _ (call (Value.ref 332) _) _ _ _); k_here)
    (
    k_dflt (refine' next_one_ok _ [(iI, oI), (aX, oX), (L + 1 + 1, o1), (L + 1, ow)] bg d5 kB 0 ws5 ns5 (iN : Int) (5 - (iN : Int)) tb _ hV.isI hV.len (by omega) (by omega) (by omega) (by omega) (Nat.ne_of_lt hV.bd) (draw_off a2 b3 (by omega) (by omega)) _ _ _ _ _ _ _ _ _ _ _ _ _ _ _ _ _ _ _ _ ?k1 ?k2 ?k3 ?k4 ?k5 ?k6 ?k7 ?k8 ?_; (case k1 => k_asm); (case k2 => k_asm); (case k3 => k_asm); (case k4 => exact cb_drop (by assumption) (fun p hp => draw_mem hp)); (case k5 => k_asm); (case k6 => first | exact rfl | assumption); (case k7 => ktr_room); (case k8 => ktr_units));
    (intro kN tr9 t9 n9 hk0 hk1 h9 tk9 F9 N9); (try dsimp only); (try k_fold))))
  k_steps
  (rename _ = Data.cell (some (Value.str (S wl ++ Txt.item (S ll) kN) _)) => hd9)
  (rw [word_is wl ll kN hk0 (by omega)] at hd9)
  refine ⟨_, _, _, _, [(aX, oX), (bg, listOf [Value.ref d5, .int ((iN + 1 : Nat) : Int) t9].toArray n9), (d5, listOf ws5.toArray 0), (L + 1 + 1, o1), (L + 1, _)], rfl, (by assumption), cb_drop (by assumption) (fun p hp => draw_end hp), draw_ap a1 a2 a3 a4 a5, (fun p hp => ?hk9), ⟨oX, _, bg, d5, ws5, ns5, n9, t9, _, _, wl ++ [ll.getD kN.toNat 0], ll.take kN.toNat ++ ll.drop (kN.toNat + 1), rfl, hV.isI, hV.len, hd9, reach_step hi5 hV.in_ (by omega), b1, b2, b3, (if_pos rfl).trans (congrArg (fun z => some (Value.str z _)) (left_is ll kN hk0)), ?hm9⟩⟩
  (case hk9 => rw [List.mem_singleton.mp hp]; exact mem_first hKp (draw_off5 b1 b2 b3))
  (case hm9 => intro z h1 h2 h3; simp only [if_neg h1, if_neg h2, if_neg h3])
end Mine
end
open PySem PySem.W PyProof.Rows Mine
set_option maxRecDepth 100000 in
set_option maxHeartbeats 8000000 in
theorem PySem.Challenge.cw_xm0042_01_holds : PySem.Challenge.rw_xm0042_01.Holds := by
  k_with_none
  refine holds_law ws fun said => ?_
  refine holds_open (q := Qv) (loose := Lo) (Xt := Xq) (XP := XL Qv []) (Yf := Hook.obs Hk) (Ya := Hook.val Hk) (YP := Hook.says Hk) (N := 4000) lo (Hook.of Hk) (Hook.keeps Hk) (fun s e => xl_of s (Bool.and_eq_true_iff.mp e).1) XL.keeps (by rfl) (by rfl) (by rfl) (fun s e => recFacts_of (Bool.and_eq_true_iff.mp e).2) (by rfl) said (by decide +kernel) ⟨rfl, rfl, rfl, rfl, rfl, by decide +kernel⟩ ?hw ?hc
  (case hw => w_witness2)
  k_fill
  intro w s₀ s₁ mg mb G Y fa o pm cd doc dV kV ho hd hcd hD hmg hg args vals as hpre hlay hrd hwl hlo
  have KX := kIn_of Y
  refine Ground.open G ?_
  intro T B D TE TW
  try (refine guard_noD D (by decide +kernel) ?_; clear D)
  clear hmg
  wrow_args hpre hlay hrd hwl hlo
  all_goals (
    first | refine callC_kw (enter_call ?_) | refine enter_call ?_
    w_top on
    try refine codeAny_mono ?_ (fun _ _ g => GoodW.toG g)
    have K0 := below_caller (Top.heap T)
    w_call any ho hd hcd hD T F
    clear hd
    k_drop
    skip)
  rename Below _ _ _ _ => K0
  rename Fr _ _ _ _ => F0
  rename News _ _ _ _ => N0
  rename Frag.In _ _ => X0
  rename Top _ _ _ _ _ _ => T0
  rename IntsAre _ _ => I0
  rename Heap.IsList _ _ _ => L0
  rename PyData.layable0 _ = true => Y0
  (try dsimp only)
  refine' law_b1 _ _ _ _ _ _ _ _ _ _ _ _ _ _ _ _ _ _ _ _ _ _ K0 ?F ?X ?N ?T ?d1 ?d2 L0 I0 ?len ?po ?dp ?un ?ret
  (case F => with_unfolding_all exact F0)
  (case X => exact X0)
  (case N => exact N0)
  (case T => exact T0)
  (case d1 => with_unfolding_all assumption)
  (case d2 => with_unfolding_all assumption)
  (case len => omega)
  (case po => passes_own)
  (case dp => decide +kernel)
  (case un => decide +kernel)
  (case ret =>
    intro h' tk' dr' m' F'
    (try dsimp only)
    wrow_close)
