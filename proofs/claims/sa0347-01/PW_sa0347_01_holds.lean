import PyProof.Rows.All
import Wide.All
import OpenK.AllK
import Wide.FinOn
import Lean
import PySem.Challenge.RW_sa0347_01
set_option Elab.async false
set_option linter.unusedVariables false
set_option linter.unusedSimpArgs false
set_option linter.unusedSectionVars false
set_option genSizeOf false
local macro_rules | `(tactic| omega) => `(tactic| first | lia | omega (splitDisjunctions := true))
local macro_rules | `(tactic| simp! [$ls,*]) => do let as ← ("xl1 xl2 xx1 xx2 xx3 xx4 xx5 xx6 xx7 xx8 xx9 xx10 xx11 xx12 xx13 xx14 xx15 xx16 ee1 ee2 ee3 ee4 ee5 ee6 ee7 ee8 ee9 ee10 ee11 ee12 ee13 ee14 ee15 ee16 ee17 ee18 ee19 eb1 eb2 eb3 eb4 eb5 eb6 eb7 el1 el2 put setOk_unset setOk_val setOk_own Mine.R.slot Mine.R.v bin_int cmp cmpI binI_add binI_sub binI_band binI_bor binI_shr items listS itemsV part cut onOwn Option.map_some Option.bind_some Option.isSome_some List.getElem?_cons_zero List.getElem?_cons_succ List.set_cons_zero List.set_cons_succ pa1 pa2 pa3 pa4 Mine.Fl.val List.map_cons List.map_nil List.reverse_cons List.reverse_nil List.nil_append List.cons_append List.append_nil ownedAt Mine.Slot.owned Mine.FDef.frame List.replicate Bool.false_eq_true if_false if_true List.length_map Bool.not_true Bool.not_false decide_true decide_false intsV_map ne_eq not_true_eq_false not_false_eq_true and_self and_true true_and".splitOn " ").toArray.mapM fun (s : String) => `(Lean.Parser.Tactic.simpLemma| $(Lean.mkIdent s.toName):ident); `(tactic| simp only [$as,*, $ls,*])

section PAr
namespace Mine
theorem zlo {a : Int} (h : 1 < a) : 0 < a := Int.lt_trans (by decide) h
theorem zle {a : Int} (h : 1 < a) : 0 ≤ a := Int.le_of_lt (zlo h)
theorem le_up {a m d : Nat} (h : m ≤ d + 1) (h2 : a + 1 ≤ m) : a ≤ d := Nat.le_of_succ_le_succ (Nat.le_trans h2 h)
theorem le_tr {a m d : Nat} (h : m ≤ d) (h2 : a ≤ m) : a ≤ d := Nat.le_trans h2 h
theorem lt_tr {a m d : Nat} (h : m < d) (h2 : a ≤ m) : a < d := Nat.lt_of_le_of_lt h2 h
theorem le_dn {a m d : Nat} (h : a ≤ m) (h2 : m ≤ d) : a ≤ d := Nat.le_trans h h2
theorem lt_dn {a m d : Nat} (h : a ≤ m) (h2 : m < d) : a < d := Nat.lt_of_le_of_lt h h2
theorem lt_dn2 {a m d : Nat} (h : a < m) (h2 : m ≤ d) : a < d := Nat.lt_of_lt_of_le h h2
theorem zlt_dn {a m d : Int} (h : a < m) (h2 : m ≤ d) : a < d := Int.lt_of_lt_of_le h h2
theorem zle_tr {a m d : Int} (h : m ≤ d) (h2 : a ≤ m) : a ≤ d := Int.le_trans h2 h
theorem zlt_tr {a m d : Int} (h : m ≤ d) (h2 : a < m) : a < d := Int.lt_of_lt_of_le h2 h
theorem zlt_tr2 {a m d : Int} (h : m < d) (h2 : a ≤ m) : a < d := Int.lt_of_le_of_lt h2 h
theorem zle_tr2 {a m d : Int} (h : m < d) (h2 : a ≤ m) : a ≤ d := Int.le_of_lt (Int.lt_of_le_of_lt h2 h)
theorem absN {n : Nat} (h : n < 2 ^ 62) : (n : Int).natAbs < 2 ^ 62 := h
theorem absN1 {n : Nat} (h : n < 2 ^ 62) : ((n : Int) - 1).natAbs < 2 ^ 62 := by omega
theorem absL {n m : Nat} (h : n ≤ m) (h2 : m < 2 ^ 62) : (n : Int).natAbs < 2 ^ 62 := Nat.lt_of_le_of_lt h h2
theorem absL1 {n m : Nat} (h : n ≤ m) (h2 : m < 2 ^ 62) : ((n : Int) - 1).natAbs < 2 ^ 62 := absN1 (Nat.lt_of_le_of_lt h h2)
theorem sdec {n j : Nat} (h : j < n) : n + 1 - (j + 1) < n + 1 - j := Nat.sub_lt_sub_left (Nat.lt_succ_of_lt h) (Nat.lt_succ_self j)
theorem gem {s m : Nat} (h : m ≤ s + 1) : -1 ≤ (s : Int) - m := by omega
theorem ltn {l s : Nat} (h : l ≤ s) : l < ((s : Int) + 1).toNat := Nat.lt_succ_of_le h
theorem subk {s m : Nat} {k : Int} (h : (s : Int) < k) : (s : Int) - m < k := Int.lt_of_le_of_lt (Int.sub_le_self _ (Int.natCast_nonneg _)) h
theorem nxt {s m l : Nat} (h : m = s + 1 - l) (h2 : l ≤ s) : ((s : Int) - m + 1).toNat = l := by omega
theorem a3 {n sz : Nat} (h : 2 ≤ sz) : n + sz + 1 - (n + sz - 2) = 3 := by
  obtain ⟨z, rfl⟩ := Nat.exists_eq_add_of_le' h
  show n + z + 3 - (n + z) = 3
  exact Nat.add_sub_cancel_left (n + z) 3
theorem a4 {n sz L : Nat} (h : 2 ≤ sz) (hn : n + sz < L) : n + sz - 2 + 2 < L := by
  rw [Nat.sub_add_cancel (Nat.le_trans h (Nat.le_add_left _ _))]; exact hn
theorem a5 {sz : Nat} (h : 2 ≤ sz) : sz - 2 + 1 = sz - 1 := by
  obtain ⟨z, rfl⟩ := Nat.exists_eq_add_of_le' h; rfl
theorem a6 {n sz j : Nat} (h : 2 ≤ sz) (hj : n + sz - 2 + 3 ≤ j) : n + sz + 1 ≤ j := by
  rw [← Nat.sub_add_cancel (n := n + sz) (m := 2) (Nat.le_trans h (Nat.le_add_left _ _))]; exact hj
theorem c1 {n : Nat} (h : 1 ≤ n) : (n : Int) - 1 = ((n - 1 : Nat) : Int) := by omega
theorem c2 {n : Nat} (h : 2 ≤ n) : (n : Int) - 2 = ((n - 2 : Nat) : Int) := by omega
theorem s61 {x B : Int} (h : x < B) (h2 : B ≤ 65536) : x < 2 ^ 61 := Int.lt_of_lt_of_le h (Int.le_trans h2 (by decide))
theorem s61e {x B : Int} (h : x ≤ B) (h2 : B ≤ 65536) : x < 2 ^ 61 := Int.lt_of_le_of_lt h (Int.lt_of_le_of_lt h2 (by decide))
theorem s61m {x B : Int} (h : x ≤ B - 1) (h2 : B ≤ 65536) : x < 2 ^ 61 := s61 (Int.lt_of_le_sub_one h) h2
theorem tn1 {n : Nat} : ((n : Int) - 1 + 1).toNat = n := by omega
theorem bm1 {B : Int} (h : 1 < B) : 0 ≤ B - 1 := Int.le_sub_one_of_lt (zlo h)
theorem bm2 {B : Int} : B - 1 < B := Int.sub_lt_self _ (by decide)
theorem z1l {a : Int} (h : 1 ≤ a) : 0 < a := Int.lt_of_lt_of_le (by decide) h
theorem z1e {a : Int} (h : 1 ≤ a) : 0 ≤ a := Int.le_trans (by decide) h
theorem ex1 {l : Nat} {e x : Nat} (h : l = x) (h2 : x ≤ e) : l ≤ e := h ▸ h2
theorem ex2 {l : Nat} {e x : Nat} (h : x = l) (h2 : x ≤ e) : l ≤ e := h ▸ h2
theorem ex3 {l : Nat} {e x : Nat} (h : l = x) (h2 : e < x) : e < l := h ▸ h2
theorem ex4 {l : Nat} {e x : Nat} (h : l = x) (h2 : e ≤ x) : e ≤ l := h ▸ h2
theorem ex5 {l : Nat} {e x : Nat} (h : l = x) (h2 : x < e) : l < e := h ▸ h2
theorem nz1 {n : Nat} (h : n ≠ 0) : 1 ≤ n := Nat.pos_of_ne_zero h
end Mine
end PAr

section PHd0
set_option maxRecDepth 100000
open PySem PySem.W PySem.Spec PySem.Calls PyProof.Rows
namespace Mine
noncomputable abbrev pw : Program := PySem.Challenge.pw_sa0347_01
noncomputable def vwp (p : Program) : Program := { p with main := { p.main with body := p.main.body.filter fun s => match s with | .Assign .. => false | _ => true } }
noncomputable def vw : Program := vwp pw
noncomputable def kf (p : Program) (i : Nat) (m : Str) (t : Nat) (c : Addr) : Obj := match p.main.body[i]? with
  | some (.FunctionDef name params body _ _ _ scope _ _ _) => ⟨.type "function", none, .func { name := name, qualname := name, params := params, body := .stmts body, scope := scope, globals := 3, closure := [], defaults := .none, kwdefaults := .none, pyModule := .str m t, code := .ref c }, #[]⟩
  | _ => default
noncomputable def kc (nm : Str) (t : Nat) (line n : Int) (c a b : Addr) (x y z : Value) (u : Int) (v : Nat) : Obj :=
  ⟨.type "code", none, .fields #[.str nm t, .str nm (t + 1), .str "/claim/cut.py" (t + 2), .int line 0, .int n 0, .int 0 0, .int 0 0, .int 3 0, .ref a, .bool true, .int 181 0, .ref b, x, y, z, .ref (c - 1), .int u 0, .int line 0, .str "/claim/cut.py" v], #[]⟩
noncomputable def ke (P : Params) (x : Str) (t : Nat) (v : Value) : DictEntry := ⟨PyData.keyHash P x, .str x t, v⟩
noncomputable def kd (P : Params) : Obj := ⟨.type "dict", none, .dict #[
  ke P "__name__" 165 (.str (Str.ofString "law_sa0347_01") 711),
  ke P "__doc__" 166 (.none),
  ke P "__package__" 167 (.none),
  ke P "__loader__" 168 (.builtin "__main__.__loader__#opaque"),
  ke P "__spec__" 169 (.none),
  ke P "__annotations__" 170 (.ref 6),
  ke P "__builtins__" 171 (.ref 4),
  ke P "__file__" 173 (.str (Str.ofString "/claim/cut.py") 172),
  ke P "__cached__" 174 (.none),
  ke P "GmpError" 208 (.ref 24),
  ke P "DivisionByZero" 224 (.ref 37),
  ke P "OutOfRange" 240 (.ref 49),
  ke P "normal" 248 (.ref 58),
  ke P "nat_of" 258 (.ref 65),
  ke P "compare" 267 (.ref 72),
  ke P "add" 280 (.ref 79),
  ke P "sub" 294 (.ref 86),
  ke P "mul_limb" 307 (.ref 93),
  ke P "divrem_limb" 319 (.ref 100),
  ke P "shift_left" 334 (.ref 107),
  ke P "shift_right" 349 (.ref 114),
  ke P "bits" 357 (.ref 121),
  ke P "bit" 366 (.ref 128),
  ke P "plain_of" 378 (.ref 135),
  ke P "check_base" 385 (.ref 142),
  ke P "digit_off" 397 (.ref 149),
  ke P "digits_plain" 409 (.ref 156),
  ke P "base_powers" 421 (.ref 163),
  ke P "with_noughts" 429 (.ref 170),
  ke P "digits_by_powers" 447 (.ref 177),
  ke P "to_digits" 460 (.ref 184),
  ke P "times_base" 470 (.ref 191),
  ke P "number_plain" 482 (.ref 198),
  ke P "number_by_powers" 498 (.ref 205),
  ke P "from_digits" 511 (.ref 212),
  ke P "power" 525 (.ref 219),
  ke P "odd_powers" 537 (.ref 226),
  ke P "window_at" 550 (.ref 233),
  ke P "by_windows" 568 (.ref 240),
  ke P "check_modulus" 575 (.ref 247),
  ke P "unit_rest" 582 (.ref 254),
  ke P "divided_times" 597 (.ref 261),
  ke P "power_mod" 611 (.ref 268),
  ke P "mul_school" 629 (.ref 275),
  ke P "divrem_small" 640 (.ref 282),
  ke P "guessed_limb" 654 (.ref 289),
  ke P "take_away" 670 (.ref 296),
  ke P "put_back" 684 (.ref 303),
  ke P "divide_rows" 697 (.ref 310),
  ke P "divrem_school" 710 (.ref 317),
  ke P "_law_turned" 720 (.ref 324),
  ke P "_law_limbs" 729 (.ref 331),
  ke P "_law_number" 735 (.ref 336),
  ke P "_law_divided" 745 (.ref 343),
  ke P "law" 751 (.ref 348)] 55, #[]⟩
noncomputable def hK : Params → Frag := fun P => (nat_lit 3, kd P) ::
  (nat_lit 57, kc "normal" 241 8 1 57 52 53 (.none) (.ref 54) (.ref 55) 246 247) ::
  (nat_lit 58, kf pw 4 "gmp.limbs" 187 57) ::
  (nat_lit 64, kc "nat_of" 249 13 2 64 59 60 (.none) (.ref 61) (.ref 62) 256 257) ::
  (nat_lit 65, kf pw 5 "gmp.limbs" 187 64) ::
  (nat_lit 71, kc "compare" 259 21 2 71 66 67 (.none) (.ref 68) (.ref 69) 265 266) ::
  (nat_lit 72, kf pw 6 "gmp.limbs" 187 71) ::
  (nat_lit 78, kc "add" 268 28 3 78 73 74 (.none) (.ref 75) (.ref 76) 278 279) ::
  (nat_lit 79, kf pw 7 "gmp.limbs" 187 78) ::
  (nat_lit 85, kc "sub" 281 43 3 85 80 81 (.none) (.ref 82) (.ref 83) 292 293) ::
  (nat_lit 86, kf pw 8 "gmp.limbs" 187 85) ::
  (nat_lit 92, kc "mul_limb" 295 52 3 92 87 88 (.none) (.ref 89) (.ref 90) 305 306) ::
  (nat_lit 93, kf pw 9 "gmp.limbs" 187 92) ::
  (nat_lit 99, kc "divrem_limb" 308 63 3 99 94 95 (.none) (.ref 96) (.ref 97) 317 318) ::
  (nat_lit 100, kf pw 10 "gmp.limbs" 187 99) ::
  (nat_lit 106, kc "shift_left" 320 72 3 106 101 102 (.none) (.ref 103) (.ref 104) 332 333) ::
  (nat_lit 107, kf pw 11 "gmp.limbs" 187 106) ::
  (nat_lit 113, kc "shift_right" 335 84 3 113 108 109 (.none) (.ref 110) (.ref 111) 347 348) ::
  (nat_lit 114, kf pw 12 "gmp.limbs" 187 113) ::
  (nat_lit 120, kc "bits" 350 91 2 120 115 116 (.none) (.ref 117) (.ref 118) 355 356) ::
  (nat_lit 121, kf pw 13 "gmp.limbs" 187 120) ::
  (nat_lit 127, kc "bit" 358 93 3 127 122 123 (.none) (.ref 124) (.ref 125) 364 365) ::
  (nat_lit 128, kf pw 14 "gmp.limbs" 187 127) ::
  (nat_lit 134, kc "plain_of" 369 96 2 134 129 130 (.none) (.ref 131) (.ref 132) 376 377) ::
  (nat_lit 135, kf pw 16 "gmp.radix" 367 134) ::
  (nat_lit 141, kc "check_base" 379 101 1 141 136 137 (.none) (.ref 138) (.ref 139) 383 384) ::
  (nat_lit 142, kf pw 17 "gmp.radix" 367 141) ::
  (nat_lit 148, kc "digit_off" 386 104 4 148 143 144 (.none) (.ref 145) (.ref 146) 395 396) ::
  (nat_lit 149, kf pw 18 "gmp.radix" 367 148) ::
  (nat_lit 155, kc "digits_plain" 398 109 4 155 150 151 (.none) (.ref 152) (.ref 153) 407 408) ::
  (nat_lit 156, kf pw 19 "gmp.radix" 367 155) ::
  (nat_lit 162, kc "base_powers" 410 116 4 162 157 158 (.none) (.ref 159) (.ref 160) 419 420) ::
  (nat_lit 163, kf pw 20 "gmp.radix" 367 162) ::
  (nat_lit 169, kc "with_noughts" 422 122 2 169 164 165 (.none) (.ref 166) (.ref 167) 427 428) ::
  (nat_lit 170, kf pw 21 "gmp.radix" 367 169) ::
  (nat_lit 176, kc "digits_by_powers" 430 124 6 176 171 172 (.none) (.ref 173) (.ref 174) 445 446) ::
  (nat_lit 177, kf pw 22 "gmp.radix" 367 176) ::
  (nat_lit 183, kc "to_digits" 448 133 6 183 178 179 (.none) (.ref 180) (.ref 181) 458 459) ::
  (nat_lit 184, kf pw 23 "gmp.radix" 367 183) ::
  (nat_lit 190, kc "times_base" 461 137 4 190 185 186 (.none) (.ref 187) (.ref 188) 468 469) ::
  (nat_lit 191, kf pw 24 "gmp.radix" 367 190) ::
  (nat_lit 197, kc "number_plain" 471 139 4 197 192 193 (.none) (.ref 194) (.ref 195) 480 481) ::
  (nat_lit 198, kf pw 25 "gmp.radix" 367 197) ::
  (nat_lit 204, kc "number_by_powers" 483 144 6 204 199 200 (.none) (.ref 201) (.ref 202) 496 497) ::
  (nat_lit 205, kf pw 26 "gmp.radix" 367 204) ::
  (nat_lit 211, kc "from_digits" 499 154 5 211 206 207 (.none) (.ref 208) (.ref 209) 509 510) ::
  (nat_lit 212, kf pw 27 "gmp.radix" 367 211) ::
  (nat_lit 218, kc "power" 514 166 4 218 213 214 (.none) (.ref 215) (.ref 216) 523 524) ::
  (nat_lit 219, kf pw 29 "gmp.powers" 512 218) ::
  (nat_lit 225, kc "odd_powers" 526 175 3 225 220 221 (.none) (.ref 222) (.ref 223) 535 536) ::
  (nat_lit 226, kf pw 30 "gmp.powers" 512 225) ::
  (nat_lit 232, kc "window_at" 538 180 4 232 227 228 (.none) (.ref 229) (.ref 230) 548 549) ::
  (nat_lit 233, kf pw 31 "gmp.powers" 512 232) ::
  (nat_lit 239, kc "by_windows" 551 188 6 239 234 235 (.none) (.ref 236) (.ref 237) 566 567) ::
  (nat_lit 240, kf pw 32 "gmp.powers" 512 239) ::
  (nat_lit 246, kc "check_modulus" 569 207 1 246 241 242 (.none) (.ref 243) (.ref 244) 573 574) ::
  (nat_lit 247, kf pw 33 "gmp.powers" 512 246) ::
  (nat_lit 253, kc "unit_rest" 576 210 1 253 248 249 (.none) (.ref 250) (.ref 251) 580 581) ::
  (nat_lit 254, kf pw 34 "gmp.powers" 512 253) ::
  (nat_lit 260, kc "divided_times" 583 212 4 260 255 256 (.none) (.ref 257) (.ref 258) 595 596) ::
  (nat_lit 261, kf pw 35 "gmp.powers" 512 260) ::
  (nat_lit 267, kc "power_mod" 598 217 7 267 262 263 (.none) (.ref 264) (.ref 265) 609 610) ::
  (nat_lit 268, kf pw 36 "gmp.powers" 512 267) ::
  (nat_lit 274, kc "mul_school" 614 222 3 274 269 270 (.none) (.ref 271) (.ref 272) 627 628) ::
  (nat_lit 275, kf pw 38 "gmp.school" 612 274) ::
  (nat_lit 281, kc "divrem_small" 630 232 3 281 276 277 (.none) (.ref 278) (.ref 279) 638 639) ::
  (nat_lit 282, kf pw 39 "gmp.school" 612 281) ::
  (nat_lit 288, kc "guessed_limb" 641 235 4 288 283 284 (.none) (.ref 285) (.ref 286) 652 653) ::
  (nat_lit 289, kf pw 40 "gmp.school" 612 288) ::
  (nat_lit 295, kc "take_away" 655 243 5 295 290 291 (.none) (.ref 292) (.ref 293) 668 669) ::
  (nat_lit 296, kf pw 41 "gmp.school" 612 295) ::
  (nat_lit 302, kc "put_back" 671 252 4 302 297 298 (.none) (.ref 299) (.ref 300) 682 683) ::
  (nat_lit 303, kf pw 42 "gmp.school" 612 302) ::
  (nat_lit 309, kc "divide_rows" 685 259 3 309 304 305 (.none) (.ref 306) (.ref 307) 695 696) ::
  (nat_lit 310, kf pw 43 "gmp.school" 612 309) ::
  (nat_lit 316, kc "divrem_school" 698 269 3 316 311 312 (.none) (.ref 313) (.ref 314) 708 709) ::
  (nat_lit 317, kf pw 44 "gmp.school" 612 316) ::
  (nat_lit 323, kc "_law_turned" 713 283 2 323 318 319 (.none) (.ref 320) (.ref 321) 718 719) ::
  (nat_lit 324, kf pw 46 "law_sa0347_01" 711 323) ::
  (nat_lit 330, kc "_law_limbs" 721 288 2 330 325 326 (.none) (.ref 327) (.ref 328) 727 728) ::
  (nat_lit 331, kf pw 47 "law_sa0347_01" 711 330) ::
  (nat_lit 335, kc "_law_number" 730 294 2 335 332 333 (.none) (.none) (.none) 733 734) ::
  (nat_lit 336, kf pw 48 "law_sa0347_01" 711 335) ::
  (nat_lit 342, kc "_law_divided" 736 296 2 342 337 338 (.none) (.ref 339) (.ref 340) 743 744) ::
  (nat_lit 343, kf pw 49 "law_sa0347_01" 711 342) ::
  (nat_lit 347, kc "law" 746 302 1 347 344 345 (.none) (.none) (.none) 749 750) ::
  (nat_lit 348, kf pw 50 "law_sa0347_01" 711 347) :: []
noncomputable abbrev hAs : List Addr := 3 :: 57 :: 58 :: 64 :: 65 :: 71 :: 72 :: 78 :: 79 :: 85 :: 86 :: 92 :: 93 :: 99 :: 100 :: 106 :: 107 :: 113 :: 114 :: 120 :: 121 :: 127 :: 128 :: 134 :: 135 :: 141 :: 142 :: 148 :: 149 :: 155 :: 156 :: 162 :: 163 :: 169 :: 170 :: 176 :: 177 :: 183 :: 184 :: 190 :: 191 :: 197 :: 198 :: 204 :: 205 :: 211 :: 212 :: 218 :: 219 :: 225 :: 226 :: 232 :: 233 :: 239 :: 240 :: 246 :: 247 :: 253 :: 254 :: 260 :: 261 :: 267 :: 268 :: 274 :: 275 :: 281 :: 282 :: 288 :: 289 :: 295 :: 296 :: 302 :: 303 :: 309 :: 310 :: 316 :: 317 :: 323 :: 324 :: 330 :: 331 :: 335 :: 336 :: 342 :: 343 :: 347 :: 348 :: []
end Mine
end PHd0

section PHd1
set_option maxRecDepth 100000
set_option maxHeartbeats 0
open PySem PySem.W PySem.Spec PySem.Calls PyProof.Rows
namespace Mine
noncomputable abbrev bS (w : World) (o : OsState) : Shared := ⟨boot_heap w.params, #[], boot_drawn, boot_toks, o⟩
theorem boot_size (w : World) : (((boot_heap w.params).isNs mainGlobals && (#[] : Array GenState).size == 0), (boot_heap w.params).objs.size, (boot_heap w.params).nsMap mainGlobals "__annotations__") = (true, 11, some (.ref 6)) := by kernel_rfl
theorem open_e : opening pw = plainProg pw.main.scope.names := by kernel_rfl
theorem open_f (s : Shared) : fenceModules? pw s = some s := by kernel_rfl

noncomputable def chkL (tb : String → Option Builtin) (im : List Stmt → List Str) (osn : type_of% openSeen) (tr : type_of% topRun) (p : Program) (w : World) (o : OsState) :=
  ((tr tb p w 11 (some (.ref 6)) 4350 (bS w o) (topStub p)).bind fun s₁ => match staticsOk (im p.main.body) (bS w o).heap s₁.heap && namesBound p s₁.heap && gensDone s₁ && laidKept (bS w o).heap s₁.heap with
    | true => some s₁
    | false => none).map fun s => (osn (vwp p) [] (im p.main.body) (fun s => xlAt (vwp p) [] s && recOk [] s) true s, (hAs.map s.heap.get?, [256].map s.heap.get?))
noncomputable def chkR (p : Program) (w : World) := some (openGood (vwp p) [], ((hK w.params).map fun q => some q.2, ([256] : List Addr).map fun _ => some (tabObj #[])))
theorem chk1 : ∀ w o, chkL PySem.W.Fast.tw14364793385576792824 PySem.W.Fast.tw5923862056798008813 PySem.W.Fast.tw4187177175401517315 PySem.W.Fast.tw14082659384304107361 PySem.Challenge.pw_sa0347_01 w o = chkR PySem.Challenge.pw_sa0347_01 w := fun w o => by kernel_rfl
end Mine
end PHd1

section PHd2
set_option maxRecDepth 100000
set_option maxHeartbeats 0
open PySem PySem.W PySem.Spec PySem.Calls PyProof.Rows
namespace Mine
theorem left_of {p q : Program} {loose : List Str} {Xt : Shared → Bool} {α : Type} {Yf : Shared → α} {Ya : World → α} {N m₀ : Nat} {ann : Option Value} {S0 : World → OsState → Shared}
    (open_ : ∀ w, ∃ o, fencedOpening treeTable p w N = some (S0 w o)) (z1 : ∀ w o, ((S0 w o).heap.isNs mainGlobals && (S0 w o).gens.size == 0) = true) (z2 : ∀ w o, (S0 w o).heap.objs.size = m₀) (z3 : ∀ w o, (S0 w o).heap.nsMap mainGlobals "__annotations__" = ann)
    (chk : ∀ w o, ∃ s, topRun treeTable p w m₀ ann N (S0 w o) (topStub p) = some s ∧ (staticsOk (importedModules p.main.body) (S0 w o).heap s.heap && namesBound p s.heap && gensDone s && laidKept (S0 w o).heap s.heap) = true ∧
      openSeen q loose (importedModules p.main.body) Xt true s = openGood q loose ∧ Yf s = Ya w) : LeftO p q loose Xt Yf Ya N := fun w => by
  obtain ⟨o, e⟩ := open_ w
  obtain ⟨s, e1, e2, e3, e4⟩ := chk w o
  unfold openEnds
  rw [e]
  show (topFrom treeTable p w N _).map _ = _
  unfold topFrom
  rw [z1, z2, z3, e1]
  simp only [Option.bind_some, e2, Option.map_some, e3, e4]
theorem two_of {A B X : Type} {r : Option A} {lk : A → Bool} {f : A → B × X} {b : B × X} (h : (r.bind fun s => match lk s with | true => some s | false => none).map f = some b) : ∃ s, r = some s ∧ lk s = true ∧ (f s).1 = b.1 ∧ (f s).2 = b.2 := by
  obtain ⟨s, e1, e2⟩ := Option.map_eq_some_iff.mp h
  obtain ⟨t, e3, e4⟩ := Option.bind_eq_some_iff.mp e1
  cases h : lk t with
  | false => rw [h] at e4; cases e4
  | true => rw [h] at e4; cases e4; exact ⟨s, e3, h, by rw [e2], by rw [e2]⟩
theorem chk : ∀ w o, chkL treeTable importedModules openSeen topRun PySem.Challenge.pw_sa0347_01 w o = chkR PySem.Challenge.pw_sa0347_01 w :=
  PySem.W.Fast.te14364793385576792824 ▸ PySem.W.Fast.te5923862056798008813 ▸ PySem.W.Fast.te4187177175401517315 ▸ PySem.W.Fast.te14082659384304107361 ▸ chk1
theorem said0 : PySem.Challenge.rw_sa0347_01.wellSaid = true := by kernel_rfl
theorem hAs_eq : ∀ P, hAs = (hK P).map (·.1) := fun _ => by kernel_rfl
noncomputable abbrev hH : Hook := kmHook hK hAs hAs_eq [256]
theorem my_left : LeftO PySem.Challenge.pw_sa0347_01 (vwp PySem.Challenge.pw_sa0347_01) [] (fun s => xlAt (vwp PySem.Challenge.pw_sa0347_01) [] s && recOk [] s) hH.obs hH.val 4350 :=
  left_of (S0 := bS) (m₀ := 11) (ann := some (.ref 6)) (fun w => by
      obtain ⟨⟨h, gs, d, k, o⟩, e, e'⟩ := Option.map_eq_some_iff.mp (boot_open (p := PySem.Challenge.pw_sa0347_01) (N := 4350) open_e (by decide +kernel) open_f w)
      obtain ⟨rfl, rfl, rfl, rfl⟩ : h = boot_heap w.params ∧ gs = #[] ∧ d = boot_drawn ∧ k = boot_toks := by simpa using e'
      exact ⟨o, e⟩) (fun w o => congrArg (·.1) (boot_size w)) (fun w o => congrArg (·.2.1) (boot_size w)) (fun w o => congrArg (·.2.2) (boot_size w)) fun w o => two_of (chk w o)
end Mine
end PHd2

section PIr
namespace Mine
theorem hide {P : Prop} (h : ∀ G : Prop, (P → G) → G) : P := h P id

inductive V where
  | none
  | bool (b : Bool)
  | int (i : Int)
  | list (vs : List V)
  | tup (vs : List V)
  | fn (k : Nat)

inductive BOp where
  | add | sub | mul | div | mod | shl | shr | band | bor | pow
inductive COp where
  | eq | ne | lt | le | gt | ge

inductive Slot where
  | unset
  | val (v : V)
  | own (vs : List V)
  | io (vs : List V)

noncomputable abbrev Frame := List Slot

noncomputable def Slot.owned : Slot → Bool
  | .own _ => true
  | .io _ => true
  | _ => false
noncomputable def ownedAt (s : Option Slot) : Bool := match s with
  | some s => s.owned
  | none => false

inductive R where
  | val (v : V)
  | fresh (vs : List V)
noncomputable def R.v : R → V
  | .val v => v
  | .fresh vs => .list vs
noncomputable def R.slot : R → Slot
  | .val v => .val v
  | .fresh vs => .own vs

inductive Fl where
  | next
  | cont
  | ret (v : V)

mutual
inductive IE where
  | var (i : Nat)
  | gl (k : Nat)
  | int (i : Int)
  | none
  | bin (op : BOp) (l r : IE)
  | neg (e : IE)
  | ite (b : IB) (t f : IE)
  | idxv (i : Nat) (ix : IE)
  | idxe (e ix : IE)
  | slc (i : Nat) (lo hi : IE)
  | list (es : IEs)
  | tup (es : IEs)
  | call (f : IE) (es : IEs)
  | callio (f : IE) (i : Nat) (es : IEs)
  | lenv (i : Nat)
  | lene (e : IE)
  | max (a b : IE)
  | min (a b : IE)
  | bitlen (e : IE)
inductive IB where
  | cmp (op : COp) (l r : IE)
  | cmp2 (o1 o2 : COp) (a b c : IE)
  | isNone (e : IE)
  | eqnil (i : Nat)
  | not (b : IB)
  | and (a b : IB)
  | or (a b : IB)
inductive IEs where
  | nil
  | cons (e : IE) (es : IEs)
end

mutual
inductive IS where
  | asg (i : Nat) (e : IE)
  | asgS (is : List Nat) (es : IEs)
  | asgU (is : List Nat) (e : IE)
  | seti (i : Nat) (ix e : IE)
  | aug (i : Nat) (op : BOp) (e : IE)
  | app (i : Nat) (e : IE)
  | rev (i : Nat)
  | ex (e : IE)
  | ite (b : IB) (s t : ISs)
  | wh (b : IB) (s : ISs)
  | forR (kind : Nat) (i : Nat) (lo hi : IE) (s : ISs)
  | forL (i : Nat) (e : IE) (s : ISs)
  | forE (i j : Nat) (e : IE) (s : ISs)
  | ret (e : IE)
  | cont
  | raise
inductive ISs where
  | nil
  | cons (s : IS) (ss : ISs)
end

noncomputable def lim : Nat := 2 ^ 62

noncomputable def binI : BOp → Int → Int → Option Int
  | .add, a, b => some (a + b)
  | .sub, a, b => some (a - b)
  | .mul, a, b => if a.natAbs < lim ∧ b.natAbs < lim then some (a * b) else none
  | .div, a, b => if b ≠ 0 ∧ a.natAbs < lim ∧ b.natAbs < lim then some (a.fdiv b) else none
  | .mod, a, b => if b ≠ 0 then some (a.fmod b) else none
  | .shl, a, n => if 0 ≤ n ∧ n ≤ 100000 ∧ a.natAbs < lim then some (a * 2 ^ n.toNat) else none
  | .shr, a, n => if 0 ≤ n then some (a.fdiv (2 ^ n.toNat)) else none
  | .band, a, b => some (PySem.Builtin.bitAnd a b)
  | .bor, a, b => some (PySem.Builtin.bitOr a b)
  | .pow, a, n => if 0 ≤ n ∧ n ≤ 100000 ∧ a.natAbs < lim then some (a ^ n.toNat) else none

noncomputable def lenLim : Nat := 2 ^ 20

noncomputable def bin : BOp → V → V → Option R
  | op, .int a, .int b => (binI op a b).map fun i => .val (.int i)
  | .add, .list xs, .list ys => if xs.length + ys.length ≤ lenLim then some (.fresh (xs ++ ys)) else none
  | .mul, .list xs, .int n => if xs ≠ [] ∧ n.natAbs < lim ∧ xs.length * n.toNat ≤ lenLim then some (.fresh (List.replicate n.toNat xs).flatten) else none
  | _, _, _ => none

noncomputable def cmpI : COp → Int → Int → Bool
  | .eq, a, b => decide (a = b)
  | .ne, a, b => !decide (a = b)
  | .lt, a, b => decide (a < b)
  | .le, a, b => decide (a ≤ b)
  | .gt, a, b => decide (b < a)
  | .ge, a, b => decide (b ≤ a)

noncomputable def intsV : List V → Option (List Int)
  | [] => some []
  | .int i :: r => (intsV r).map (i :: ·)
  | _ => none

noncomputable def cmp : COp → V → V → Option Bool
  | op, .int a, .int b => some (cmpI op a b)
  | .eq, .list xs, .list ys => match intsV xs, intsV ys with
    | some a, some b => some (decide (a = b))
    | _, _ => none
  | .ne, .list xs, .list ys => match intsV xs, intsV ys with
    | some a, some b => some (!decide (a = b))
    | _, _ => none
  | _, _, _ => none

noncomputable def item (vs : List V) (k : Int) : Option V :=
  if k.natAbs < lim then (if 0 ≤ k then vs[k.toNat]? else if 0 ≤ (vs.length : Int) + k then vs[((vs.length : Int) + k).toNat]? else none) else none

noncomputable def items : Slot → Option (List V)
  | .val (.list vs) => some vs
  | .val (.tup vs) => some vs
  | .own vs => some vs
  | .io vs => some vs
  | _ => none
noncomputable def itemsV : V → Option (List V)
  | .list vs => some vs
  | .tup vs => some vs
  | _ => none
noncomputable def listS : Slot → Option (List V)
  | .val (.list vs) => some vs
  | .own vs => some vs
  | .io vs => some vs
  | _ => none

noncomputable def part : V → Option (Option Int)
  | .none => some none
  | .int k => some (some k)
  | _ => none
noncomputable def cutI {α : Type} (vs : List α) (lo hi : Option Int) : List α :=
  (vs.drop (lo.elim 0 (PySem.clipAt vs.length))).take (hi.elim vs.length (PySem.clipAt vs.length) - lo.elim 0 (PySem.clipAt vs.length))
noncomputable def cut (vs : List V) (lo hi : V) : Option (List V) :=
  match part lo, part hi with
  | some l, some h => some (cutI vs l h)
  | _, _ => none

noncomputable abbrev CallF := V → Option (List V) → List V → Option (V × List V)

noncomputable def bitLen (i : Int) : Int := (PySem.Builtin.Int.intBits i : Nat)

mutual
noncomputable def evalE (C : CallF) : IE → Frame → Option (R × Frame)
  | .var i, fr => match fr[i]? with
    | some (.val v) => some (.val v, fr)
    | some (.own vs) => some (.val (.list vs), fr.set i (.val (.list vs)))
    | _ => none
  | .gl k, fr => some (.val (.fn k), fr)
  | .int i, fr => some (.val (.int i), fr)
  | .none, fr => some (.val .none, fr)
  | .bin op l r, fr => match evalE C l fr with
    | none => none
    | some (a, fr1) => match evalE C r fr1 with
      | none => none
      | some (b, fr2) => (bin op a.v b.v).map fun r => (r, fr2)
  | .neg e, fr => match evalE C e fr with
    | some (.val (.int i), fr1) => some (.val (.int (-i)), fr1)
    | _ => none
  | .ite b t f, fr => match evalB C b fr with
    | none => none
    | some (true, fr1) => (evalE C t fr1).map fun p => (.val p.1.v, p.2)
    | some (false, fr1) => (evalE C f fr1).map fun p => (.val p.1.v, p.2)
  | .idxv i ix, fr => if ((fr[i]?).bind items).isSome then (match evalE C ix fr with
    | some (.val (.int k), fr1) => match (fr1[i]?).bind items with
      | some vs => (item vs k).map fun v => (.val v, fr1)
      | none => none
    | _ => none) else none
  | .idxe e ix, fr => match evalE C e fr with
    | none => none
    | some (b, fr1) => match evalE C ix fr1 with
      | some (.val (.int k), fr2) => match itemsV b.v with
        | some vs => (item vs k).map fun v => (.val v, fr2)
        | none => none
      | _ => none
  | .slc i lo hi, fr => if ((fr[i]?).bind listS).isSome then (match evalE C lo fr with
    | none => none
    | some (l, fr1) => match evalE C hi fr1 with
      | none => none
      | some (h, fr2) => match (fr2[i]?).bind listS with
        | some vs => if vs.length ≤ lenLim then (cut vs l.v h.v).map fun ws => (.fresh ws, fr2) else none
        | none => none) else none
  | .list es, fr => (evalEs C es fr).map fun p => (.fresh (p.1.map R.v), p.2)
  | .tup es, fr => (evalEs C es fr).map fun p => (.val (.tup (p.1.map R.v)), p.2)
  | .call f es, fr => match evalE C f fr with
    | some (.val g, fr1) => match evalEs C es fr1 with
      | none => none
      | some (vs, fr2) => (C g none (vs.map R.v)).map fun p => (.val p.1, fr2)
    | _ => none
  | .callio f i es, fr => match evalE C f fr with
    | some (.val g, fr1) => if ownedAt fr1[i]? then (match evalEs C es fr1 with
      | none => none
      | some (vs, fr2) => match fr2[i]? with
        | some (.own ws) => (C g (some ws) (vs.map R.v)).map fun p => (.val p.1, fr2.set i (.own p.2))
        | some (.io ws) => (C g (some ws) (vs.map R.v)).map fun p => (.val p.1, fr2.set i (.io p.2))
        | _ => none) else none
    | _ => none
  | .lenv i, fr => match (fr[i]?).bind listS with
    | some vs => if vs.length ≤ lenLim then some (.val (.int vs.length), fr) else none
    | none => none
  | .lene e, fr => match evalE C e fr with
    | some (r, fr1) => match r.v with
      | .list vs => if vs.length ≤ lenLim then some (.val (.int vs.length), fr1) else none
      | _ => none
    | none => none
  | .max a b, fr => match evalE C a fr with
    | some (.val (.int x), fr1) => match evalE C b fr1 with
      | some (.val (.int y), fr2) => some (.val (.int (if x < y then y else x)), fr2)
      | _ => none
    | _ => none
  | .min a b, fr => match evalE C a fr with
    | some (.val (.int x), fr1) => match evalE C b fr1 with
      | some (.val (.int y), fr2) => some (.val (.int (if y < x then y else x)), fr2)
      | _ => none
    | _ => none
  | .bitlen e, fr => match evalE C e fr with
    | some (.val (.int x), fr1) => some (.val (.int (bitLen x)), fr1)
    | _ => none
noncomputable def evalB (C : CallF) : IB → Frame → Option (Bool × Frame)
  | .cmp op l r, fr => match evalE C l fr with
    | none => none
    | some (a, fr1) => match evalE C r fr1 with
      | none => none
      | some (b, fr2) => (cmp op a.v b.v).map fun t => (t, fr2)
  | .cmp2 o1 o2 a b c, fr => match evalE C a fr with
    | some (.val (.int x), fr1) => match evalE C b fr1 with
      | some (.val (.int y), fr2) => match cmpI o1 x y with
        | false => some (false, fr2)
        | true => match evalE C c fr2 with
          | some (.val (.int z), fr3) => some (cmpI o2 y z, fr3)
          | _ => none
      | _ => none
    | _ => none
  | .isNone e, fr => match evalE C e fr with
    | some (.val .none, fr1) => some (true, fr1)
    | some (.val (.list _), fr1) => some (false, fr1)
    | _ => none
  | .eqnil i, fr => match (fr[i]?).bind listS with
    | some vs => (intsV vs).map fun ns => (decide (ns = []), fr)
    | none => none
  | .not b, fr => (evalB C b fr).map fun p => (!p.1, p.2)
  | .and a b, fr => match evalB C a fr with
    | none => none
    | some (false, fr1) => some (false, fr1)
    | some (true, fr1) => evalB C b fr1
  | .or a b, fr => match evalB C a fr with
    | none => none
    | some (true, fr1) => some (true, fr1)
    | some (false, fr1) => evalB C b fr1
noncomputable def evalEs (C : CallF) : IEs → Frame → Option (List R × Frame)
  | .nil, fr => some ([], fr)
  | .cons e es, fr => match evalE C e fr with
    | none => none
    | some (a, fr1) => (evalEs C es fr1).map fun p => (a :: p.1, p.2)
end

noncomputable def whileF (t : Frame → Option (Bool × Frame)) (b : Frame → Option (Fl × Frame)) : Nat → Frame → Option (Fl × Frame)
  | 0, _ => none
  | n + 1, fr => match t fr with
    | none => none
    | some (false, fr1) => some (.next, fr1)
    | some (true, fr1) => match b fr1 with
      | none => none
      | some (.ret v, fr2) => some (.ret v, fr2)
      | some (.next, fr2) => whileF t b n fr2
      | some (.cont, fr2) => whileF t b n fr2

theorem whileF_mono {t : Frame → Option (Bool × Frame)} {b : Frame → Option (Fl × Frame)} : ∀ {n : Nat} {fr : Frame} {r : Fl × Frame}, whileF t b n fr = some r → ∀ k, whileF t b (n + k) fr = some r
  | 0, _, _, h, _ => by cases h
  | n + 1, fr, r, h, k => by
    rw [show n + 1 + k = (n + k) + 1 from by omega]
    unfold whileF at h ⊢
    split at h
    · cases h
    · exact h
    · split at h
      · cases h
      · exact h
      · exact whileF_mono h k
      · exact whileF_mono h k

open Classical in
noncomputable def whileI (t : Frame → Option (Bool × Frame)) (b : Frame → Option (Fl × Frame)) (fr : Frame) : Option (Fl × Frame) :=
  if h : ∃ n r, whileF t b n fr = some r then some (Classical.choose (Classical.choose_spec h)) else none

theorem whileI_of {t : Frame → Option (Bool × Frame)} {b : Frame → Option (Fl × Frame)} {n : Nat} {fr : Frame} {r : Fl × Frame} (h : whileF t b n fr = some r) : whileI t b fr = some r := by
  have hx : ∃ n r, whileF t b n fr = some r := ⟨n, r, h⟩
  unfold whileI
  rw [dif_pos hx]
  have h2 := Classical.choose_spec (Classical.choose_spec hx)
  have e1 := whileF_mono h (Classical.choose hx)
  have e2 := whileF_mono h2 n
  rw [Nat.add_comm] at e2
  rw [e1] at e2
  exact e2.symm
theorem whileI_ex {t : Frame → Option (Bool × Frame)} {b : Frame → Option (Fl × Frame)} {fr : Frame} {r : Fl × Frame} (h : whileI t b fr = some r) : ∃ n, whileF t b n fr = some r := by
  unfold whileI at h
  split at h
  · rename_i hx
    have h2 := Classical.choose_spec (Classical.choose_spec hx)
    have := Option.some.inj h
    exact ⟨_, this ▸ h2⟩
  · cases h

theorem whileI_stop {t : Frame → Option (Bool × Frame)} {b : Frame → Option (Fl × Frame)} {fr fr1 : Frame} (h : t fr = some (false, fr1)) : whileI t b fr = some (.next, fr1) :=
  whileI_of (n := 1) (by unfold whileF; rw [h])
theorem whileI_ret {t : Frame → Option (Bool × Frame)} {b : Frame → Option (Fl × Frame)} {fr fr1 fr2 : Frame} {v : V} (h : t fr = some (true, fr1)) (hb : b fr1 = some (.ret v, fr2)) : whileI t b fr = some (.ret v, fr2) :=
  whileI_of (n := 1) (by unfold whileF; rw [h]; dsimp only; rw [hb])
theorem whileI_step {t : Frame → Option (Bool × Frame)} {b : Frame → Option (Fl × Frame)} {fr fr1 fr2 : Frame} {r : Fl × Frame} (h : t fr = some (true, fr1)) (hb : b fr1 = some (.next, fr2)) (hr : whileI t b fr2 = some r) : whileI t b fr = some r := by
  obtain ⟨n, hn⟩ := whileI_ex hr
  exact whileI_of (n := n + 1) (by unfold whileF; rw [h]; dsimp only; rw [hb]; exact hn)
theorem whileI_cont {t : Frame → Option (Bool × Frame)} {b : Frame → Option (Fl × Frame)} {fr fr1 fr2 : Frame} {r : Fl × Frame} (h : t fr = some (true, fr1)) (hb : b fr1 = some (.cont, fr2)) (hr : whileI t b fr2 = some r) : whileI t b fr = some r := by
  obtain ⟨n, hn⟩ := whileI_ex hr
  exact whileI_of (n := n + 1) (by unfold whileF; rw [h]; dsimp only; rw [hb]; exact hn)

noncomputable def forI (body : V → Frame → Option (Fl × Frame)) : List V → Frame → Option (Fl × Frame)
  | [], fr => some (.next, fr)
  | v :: vs, fr => match body v fr with
    | none => none
    | some (.ret r, fr1) => some (.ret r, fr1)
    | some (.next, fr1) => forI body vs fr1
    | some (.cont, fr1) => forI body vs fr1

noncomputable def enumFrom (n : Nat) : List V → List V
  | [] => []
  | v :: r => .tup [.int n, v] :: enumFrom (n + 1) r

noncomputable def rangeI (down : Bool) (lo hi : Int) : List Int :=
  if down then (List.range (lo - hi).toNat).map fun (k : Nat) => lo - (k : Int) else (List.range (hi - lo).toNat).map fun (k : Nat) => lo + (k : Int)

noncomputable def setOk : Option Slot → Bool
  | none => false
  | some (.io _) => false
  | some _ => true

noncomputable def put (fr : Frame) (i : Nat) (s : Slot) : Option Frame := if setOk fr[i]? then some (fr.set i s) else none

noncomputable def putAll : List Nat → List Slot → Frame → Option Frame
  | [], [], fr => some fr
  | i :: is, s :: ss, fr => match put fr i s with
    | none => none
    | some fr1 => putAll is ss fr1
  | _, _, _ => none

noncomputable def setItem (vs : List V) (k : Int) (v : V) : Option (List V) :=
  if 0 ≤ k ∧ k < (vs.length : Int) ∧ vs.length ≤ lenLim then some (vs.set k.toNat v) else none

noncomputable def onOwn (s : Option Slot) (f : List V → Option (List V)) : Option Slot := match s with
  | some (.own vs) => (f vs).map .own
  | some (.io vs) => (f vs).map .io
  | _ => none

mutual
noncomputable def xS (C : CallF) : IS → Frame → Option (Fl × Frame)
  | .asg i e, fr => match evalE C e fr with
    | none => none
    | some (r, fr1) => (put fr1 i r.slot).map fun fr2 => (.next, fr2)
  | .asgS is es, fr => match evalEs C es fr with
    | none => none
    | some (rs, fr1) => (putAll is.reverse (rs.map R.slot).reverse fr1).map fun fr2 => (.next, fr2)
  | .asgU is e, fr => match evalE C e fr with
    | some (.val (.tup vs), fr1) => (putAll is (vs.map .val) fr1).map fun fr2 => (.next, fr2)
    | _ => none
  | .seti i ix e, fr => match evalE C e fr with
    | none => none
    | some (r, fr1) => if ownedAt fr1[i]? then (match evalE C ix fr1 with
      | some (.val (.int k), fr2) => (onOwn fr2[i]? fun vs => setItem vs k r.v).map fun s => (.next, fr2.set i s)
      | _ => none) else none
  | .aug i op e, fr => match fr[i]? with
    | some (.val (.int a)) => match evalE C e fr with
      | some (.val (.int b), fr1) => match binI op a b with
        | none => none
        | some c => (put fr1 i (.val (.int c))).map fun fr2 => (.next, fr2)
      | _ => none
    | _ => none
  | .app i e, fr => if ownedAt fr[i]? then (match evalE C e fr with
    | none => none
    | some (r, fr1) => (onOwn fr1[i]? fun vs => if vs.length ≤ lenLim then some (vs ++ [r.v]) else none).map fun s => (.next, fr1.set i s)) else none
  | .rev i, fr => (onOwn fr[i]? fun vs => if vs.length ≤ lenLim then some vs.reverse else none).map fun s => (.next, fr.set i s)
  | .ex e, fr => match evalE C e fr with
    | some (.val .none, fr1) => some (.next, fr1)
    | _ => none
  | .ite b s t, fr => match evalB C b fr with
    | none => none
    | some (true, fr1) => xSs C s fr1
    | some (false, fr1) => xSs C t fr1
  | .wh b s, fr => whileI (fun f => evalB C b f) (fun f => xSs C s f) fr
  | .forR kind i lo hi s, fr => match evalE C lo fr with
    | some (.val (.int a), fr1) => match evalE C hi fr1 with
      | some (.val (.int b), fr2) => if a.natAbs < lim ∧ b.natAbs < lim then
          forI (fun v f => match put f i (.val v) with
            | none => none
            | some f1 => xSs C s f1) ((rangeI (kind == 3) a b).map .int) fr2 else none
      | _ => none
    | _ => none
  | .forL i e s, fr => match evalE C e fr with
    | some (.val (.list vs), fr1) => if vs.length ≤ lenLim then forI (fun v f => match put f i (.val v) with
            | none => none
            | some f1 => xSs C s f1) vs fr1 else none
    | _ => none
  | .forE i j e s, fr => match evalE C e fr with
    | some (.val (.list vs), fr1) => if vs.length ≤ lenLim then forI (fun v f => match v with
            | .tup ws => match putAll [i, j] (ws.map .val) f with
              | none => none
              | some f1 => xSs C s f1
            | _ => none) (enumFrom 0 vs) fr1 else none
    | _ => none
  | .ret e, fr => (evalE C e fr).map fun p => (.ret p.1.v, p.2)
  | .cont, fr => some (.cont, fr)
  | .raise, _ => none
noncomputable def xSs (C : CallF) : ISs → Frame → Option (Fl × Frame)
  | .nil, fr => some (.next, fr)
  | .cons s ss, fr => match xS C s fr with
    | none => none
    | some (.next, fr1) => xSs C ss fr1
    | some (.cont, fr1) => some (.cont, fr1)
    | some (.ret v, fr1) => some (.ret v, fr1)
end
theorem ee1 (C : CallF) {i} {fr} : evalE C (.var i) fr = (match fr[i]? with
    | some (.val v) => some (.val v, fr)
    | some (.own vs) => some (.val (.list vs), fr.set i (.val (.list vs)))
    | _ => none) := rfl
theorem ee2 (C : CallF) {k} {fr} : evalE C (.gl k) fr = (some (.val (.fn k), fr)) := rfl
theorem ee3 (C : CallF) {i} {fr} : evalE C (.int i) fr = (some (.val (.int i), fr)) := rfl
theorem ee4 (C : CallF) {fr} : evalE C (.none) fr = (some (.val .none, fr)) := rfl
theorem ee5 (C : CallF) {op} {l} {r} {fr} : evalE C (.bin op l r) fr = (match evalE C l fr with
    | none => none
    | some (a, fr1) => match evalE C r fr1 with
      | none => none
      | some (b, fr2) => (bin op a.v b.v).map fun r => (r, fr2)) := rfl
theorem ee6 (C : CallF) {e} {fr} : evalE C (.neg e) fr = (match evalE C e fr with
    | some (.val (.int i), fr1) => some (.val (.int (-i)), fr1)
    | _ => none) := rfl
theorem ee7 (C : CallF) {b} {t} {f} {fr} : evalE C (.ite b t f) fr = (match evalB C b fr with
    | none => none
    | some (true, fr1) => (evalE C t fr1).map fun p => (.val p.1.v, p.2)
    | some (false, fr1) => (evalE C f fr1).map fun p => (.val p.1.v, p.2)) := rfl
theorem ee8 (C : CallF) {i} {ix} {fr} : evalE C (.idxv i ix) fr = (if ((fr[i]?).bind items).isSome then (match evalE C ix fr with
    | some (.val (.int k), fr1) => match (fr1[i]?).bind items with
      | some vs => (item vs k).map fun v => (.val v, fr1)
      | none => none
    | _ => none) else none) := rfl
theorem ee9 (C : CallF) {e} {ix} {fr} : evalE C (.idxe e ix) fr = (match evalE C e fr with
    | none => none
    | some (b, fr1) => match evalE C ix fr1 with
      | some (.val (.int k), fr2) => match itemsV b.v with
        | some vs => (item vs k).map fun v => (.val v, fr2)
        | none => none
      | _ => none) := rfl
theorem ee10 (C : CallF) {i} {lo} {hi} {fr} : evalE C (.slc i lo hi) fr = (if ((fr[i]?).bind listS).isSome then (match evalE C lo fr with
    | none => none
    | some (l, fr1) => match evalE C hi fr1 with
      | none => none
      | some (h, fr2) => match (fr2[i]?).bind listS with
        | some vs => if vs.length ≤ lenLim then (cut vs l.v h.v).map fun ws => (.fresh ws, fr2) else none
        | none => none) else none) := rfl
theorem ee11 (C : CallF) {es} {fr} : evalE C (.list es) fr = ((evalEs C es fr).map fun p => (.fresh (p.1.map R.v), p.2)) := rfl
theorem ee12 (C : CallF) {es} {fr} : evalE C (.tup es) fr = ((evalEs C es fr).map fun p => (.val (.tup (p.1.map R.v)), p.2)) := rfl
theorem ee13 (C : CallF) {f} {es} {fr} : evalE C (.call f es) fr = (match evalE C f fr with
    | some (.val g, fr1) => match evalEs C es fr1 with
      | none => none
      | some (vs, fr2) => (C g none (vs.map R.v)).map fun p => (.val p.1, fr2)
    | _ => none) := rfl
theorem ee14 (C : CallF) {f} {i} {es} {fr} : evalE C (.callio f i es) fr = (match evalE C f fr with
    | some (.val g, fr1) => if ownedAt fr1[i]? then (match evalEs C es fr1 with
      | none => none
      | some (vs, fr2) => match fr2[i]? with
        | some (.own ws) => (C g (some ws) (vs.map R.v)).map fun p => (.val p.1, fr2.set i (.own p.2))
        | some (.io ws) => (C g (some ws) (vs.map R.v)).map fun p => (.val p.1, fr2.set i (.io p.2))
        | _ => none) else none
    | _ => none) := rfl
theorem ee15 (C : CallF) {i} {fr} : evalE C (.lenv i) fr = (match (fr[i]?).bind listS with
    | some vs => if vs.length ≤ lenLim then some (.val (.int vs.length), fr) else none
    | none => none) := rfl
theorem ee16 (C : CallF) {e} {fr} : evalE C (.lene e) fr = (match evalE C e fr with
    | some (r, fr1) => match r.v with
      | .list vs => if vs.length ≤ lenLim then some (.val (.int vs.length), fr1) else none
      | _ => none
    | none => none) := rfl
theorem ee17 (C : CallF) {a} {b} {fr} : evalE C (.max a b) fr = (match evalE C a fr with
    | some (.val (.int x), fr1) => match evalE C b fr1 with
      | some (.val (.int y), fr2) => some (.val (.int (if x < y then y else x)), fr2)
      | _ => none
    | _ => none) := rfl
theorem ee18 (C : CallF) {a} {b} {fr} : evalE C (.min a b) fr = (match evalE C a fr with
    | some (.val (.int x), fr1) => match evalE C b fr1 with
      | some (.val (.int y), fr2) => some (.val (.int (if y < x then y else x)), fr2)
      | _ => none
    | _ => none) := rfl
theorem ee19 (C : CallF) {e} {fr} : evalE C (.bitlen e) fr = (match evalE C e fr with
    | some (.val (.int x), fr1) => some (.val (.int (bitLen x)), fr1)
    | _ => none) := rfl
theorem eb1 (C : CallF) {op} {l} {r} {fr} : evalB C (.cmp op l r) fr = (match evalE C l fr with
    | none => none
    | some (a, fr1) => match evalE C r fr1 with
      | none => none
      | some (b, fr2) => (cmp op a.v b.v).map fun t => (t, fr2)) := rfl
theorem eb2 (C : CallF) {o1} {o2} {a} {b} {c} {fr} : evalB C (.cmp2 o1 o2 a b c) fr = (match evalE C a fr with
    | some (.val (.int x), fr1) => match evalE C b fr1 with
      | some (.val (.int y), fr2) => match cmpI o1 x y with
        | false => some (false, fr2)
        | true => match evalE C c fr2 with
          | some (.val (.int z), fr3) => some (cmpI o2 y z, fr3)
          | _ => none
      | _ => none
    | _ => none) := rfl
theorem eb3 (C : CallF) {e} {fr} : evalB C (.isNone e) fr = (match evalE C e fr with
    | some (.val .none, fr1) => some (true, fr1)
    | some (.val (.list _), fr1) => some (false, fr1)
    | _ => none) := rfl
theorem eb4 (C : CallF) {i} {fr} : evalB C (.eqnil i) fr = (match (fr[i]?).bind listS with
    | some vs => (intsV vs).map fun ns => (decide (ns = []), fr)
    | none => none) := rfl
theorem eb5 (C : CallF) {b} {fr} : evalB C (.not b) fr = ((evalB C b fr).map fun p => (!p.1, p.2)) := rfl
theorem eb6 (C : CallF) {a} {b} {fr} : evalB C (.and a b) fr = (match evalB C a fr with
    | none => none
    | some (false, fr1) => some (false, fr1)
    | some (true, fr1) => evalB C b fr1) := rfl
theorem eb7 (C : CallF) {a} {b} {fr} : evalB C (.or a b) fr = (match evalB C a fr with
    | none => none
    | some (true, fr1) => some (true, fr1)
    | some (false, fr1) => evalB C b fr1) := rfl
theorem el1 (C : CallF) {fr} : evalEs C (.nil) fr = (some ([], fr)) := rfl
theorem el2 (C : CallF) {e} {es} {fr} : evalEs C (.cons e es) fr = (match evalE C e fr with
    | none => none
    | some (a, fr1) => (evalEs C es fr1).map fun p => (a :: p.1, p.2)) := rfl
theorem xx1 (C : CallF) {i} {e} {fr} : xS C (.asg i e) fr = (match evalE C e fr with
    | none => none
    | some (r, fr1) => (put fr1 i r.slot).map fun fr2 => (.next, fr2)) := rfl
theorem xx2 (C : CallF) {is} {es} {fr} : xS C (.asgS is es) fr = (match evalEs C es fr with
    | none => none
    | some (rs, fr1) => (putAll is.reverse (rs.map R.slot).reverse fr1).map fun fr2 => (.next, fr2)) := rfl
theorem xx3 (C : CallF) {is} {e} {fr} : xS C (.asgU is e) fr = (match evalE C e fr with
    | some (.val (.tup vs), fr1) => (putAll is (vs.map .val) fr1).map fun fr2 => (.next, fr2)
    | _ => none) := rfl
theorem xx4 (C : CallF) {i} {ix} {e} {fr} : xS C (.seti i ix e) fr = (match evalE C e fr with
    | none => none
    | some (r, fr1) => if ownedAt fr1[i]? then (match evalE C ix fr1 with
      | some (.val (.int k), fr2) => (onOwn fr2[i]? fun vs => setItem vs k r.v).map fun s => (.next, fr2.set i s)
      | _ => none) else none) := rfl
theorem xx5 (C : CallF) {i} {op} {e} {fr} : xS C (.aug i op e) fr = (match fr[i]? with
    | some (.val (.int a)) => match evalE C e fr with
      | some (.val (.int b), fr1) => match binI op a b with
        | none => none
        | some c => (put fr1 i (.val (.int c))).map fun fr2 => (.next, fr2)
      | _ => none
    | _ => none) := rfl
theorem xx6 (C : CallF) {i} {e} {fr} : xS C (.app i e) fr = (if ownedAt fr[i]? then (match evalE C e fr with
    | none => none
    | some (r, fr1) => (onOwn fr1[i]? fun vs => if vs.length ≤ lenLim then some (vs ++ [r.v]) else none).map fun s => (.next, fr1.set i s)) else none) := rfl
theorem xx7 (C : CallF) {i} {fr} : xS C (.rev i) fr = ((onOwn fr[i]? fun vs => if vs.length ≤ lenLim then some vs.reverse else none).map fun s => (.next, fr.set i s)) := rfl
theorem xx8 (C : CallF) {e} {fr} : xS C (.ex e) fr = (match evalE C e fr with
    | some (.val .none, fr1) => some (.next, fr1)
    | _ => none) := rfl
theorem xx9 (C : CallF) {b} {s} {t} {fr} : xS C (.ite b s t) fr = (match evalB C b fr with
    | none => none
    | some (true, fr1) => xSs C s fr1
    | some (false, fr1) => xSs C t fr1) := rfl
theorem xx10 (C : CallF) {b} {s} {fr} : xS C (.wh b s) fr = (whileI (fun f => evalB C b f) (fun f => xSs C s f) fr) := rfl
theorem xx11 (C : CallF) {kind} {i} {lo} {hi} {s} {fr} : xS C (.forR kind i lo hi s) fr = (match evalE C lo fr with
    | some (.val (.int a), fr1) => match evalE C hi fr1 with
      | some (.val (.int b), fr2) => if a.natAbs < lim ∧ b.natAbs < lim then
          forI (fun v f => match put f i (.val v) with
            | none => none
            | some f1 => xSs C s f1) ((rangeI (kind == 3) a b).map .int) fr2 else none
      | _ => none
    | _ => none) := rfl
theorem xx12 (C : CallF) {i} {e} {s} {fr} : xS C (.forL i e s) fr = (match evalE C e fr with
    | some (.val (.list vs), fr1) => if vs.length ≤ lenLim then forI (fun v f => match put f i (.val v) with
            | none => none
            | some f1 => xSs C s f1) vs fr1 else none
    | _ => none) := rfl
theorem xx13 (C : CallF) {i} {j} {e} {s} {fr} : xS C (.forE i j e s) fr = (match evalE C e fr with
    | some (.val (.list vs), fr1) => if vs.length ≤ lenLim then forI (fun v f => match v with
            | .tup ws => match putAll [i, j] (ws.map .val) f with
              | none => none
              | some f1 => xSs C s f1
            | _ => none) (enumFrom 0 vs) fr1 else none
    | _ => none) := rfl
theorem xx14 (C : CallF) {e} {fr} : xS C (.ret e) fr = ((evalE C e fr).map fun p => (.ret p.1.v, p.2)) := rfl
theorem xx15 (C : CallF) {fr} : xS C (.cont) fr = (some (.cont, fr)) := rfl
theorem xl1 (C : CallF) {fr} : xSs C (.nil) fr = (some (.next, fr)) := rfl
theorem xl2 (C : CallF) {s} {ss} {fr} : xSs C (.cons s ss) fr = (match xS C s fr with
    | none => none
    | some (.next, fr1) => xSs C ss fr1
    | some (.cont, fr1) => some (.cont, fr1)
    | some (.ret v, fr1) => some (.ret v, fr1)) := rfl
theorem pa1 {fr} : putAll [] [] fr = (some fr) := rfl
theorem pa2 {i} {is} {s} {ss} {fr} : putAll (i :: is) (s :: ss) fr = (match put fr i s with
    | none => none
    | some fr1 => putAll is ss fr1) := rfl
theorem fo1 (body : V → Frame → Option (Fl × Frame)) {fr} : forI body [] fr = (some (.next, fr)) := rfl
theorem fo2 (body : V → Frame → Option (Fl × Frame)) {v} {vs} {fr} : forI body (v :: vs) fr = (match body v fr with
    | none => none
    | some (.ret r, fr1) => some (.ret r, fr1)
    | some (.next, fr1) => forI body vs fr1
    | some (.cont, fr1) => forI body vs fr1) := rfl
theorem xx16 (C : CallF) {fr} : xS C .raise fr = none := rfl
theorem pa3 {s} {ss} {fr} : putAll [] (s :: ss) fr = none := rfl
theorem pa4 {i} {is} {fr} : putAll (i :: is) [] fr = none := rfl

structure FDef where
  io : Bool
  nargs : Nat
  caps : List V
  more : Nat
  body : ISs

noncomputable def FDef.frame (fd : FDef) (io : List V) (args : List V) : Frame :=
  (if fd.io then [.io io] else []) ++ args.map .val ++ fd.caps.map .val ++ List.replicate fd.more .unset

noncomputable def Fl.val : Fl → Option V
  | .next => some .none
  | .ret v => some v
  | .cont => none

noncomputable def ioSlot : Option Slot → Option (List V)
  | some (.io vs) => some vs
  | _ => none
noncomputable def ioOf (fd : FDef) (fr : Frame) : Option (List V) := if fd.io then ioSlot fr[0]? else some []

noncomputable def callI (T : Nat → Option FDef) : Nat → CallF
  | 0, _, _, _ => none
  | d + 1, .fn k, io, args => match T k with
    | none => none
    | some fd => if io.isSome = fd.io ∧ args.length = fd.nargs then
        (match xSs (callI T d) fd.body (fd.frame (io.getD []) args) with
        | none => none
        | some (fl, fr) => match fl.val, ioOf fd fr with
          | some v, some o => some (v, o)
          | _, _ => none) else none
  | _ + 1, _, _, _ => none
theorem ca1 {T : Nat → Option FDef} {d k : Nat} {io : Option (List V)} {args : List V} : callI T (d + 1) (.fn k) io args = (match T k with
    | none => none
    | some fd => if io.isSome = fd.io ∧ args.length = fd.nargs then
        (match xSs (callI T d) fd.body (fd.frame (io.getD []) args) with
        | none => none
        | some (fl, fr) => match fl.val, ioOf fd fr with
          | some v, some o => some (v, o)
          | _, _ => none) else none) := rfl
theorem ca1_inv {T : Nat → Option FDef} {d k : Nat} {io : Option (List V)} {args : List V} {r : V × List V} (h : callI T (d + 1) (.fn k) io args = some r) {G : Prop}
    (kk : ∀ fd fl fr, T k = some fd → io.isSome = fd.io → args.length = fd.nargs → xSs (callI T d) fd.body (fd.frame (io.getD []) args) = some (fl, fr) → fl.val = some r.1 → ioOf fd fr = some r.2 → G) : G := by
  rw [ca1] at h
  cases e1 : T k with
  | none => rw [e1] at h; cases h
  | some fd =>
    rw [e1] at h
    dsimp only at h
    by_cases hc : io.isSome = fd.io ∧ args.length = fd.nargs
    · rw [if_pos hc] at h
      cases e2 : xSs (callI T d) fd.body (fd.frame (io.getD []) args) with
      | none => rw [e2] at h; cases h
      | some p =>
        rw [e2] at h
        dsimp only at h
        cases e3 : p.1.val with
        | none => rw [e3] at h; cases h
        | some v =>
          cases e4 : ioOf fd p.2 with
          | none => rw [e3, e4] at h; cases h
          | some o => rw [e3, e4] at h; cases h; exact kk fd p.1 p.2 e1 hc.1 hc.2 e2 e3 e4
    · rw [if_neg hc] at h; cases h
end Mine
end PIr

section PRel
set_option maxRecDepth 100000
open PySem PySem.W PySem.Spec PySem.Calls PyProof.Rows
namespace Mine

noncomputable abbrev Led := List (Addr × Obj)
noncomputable abbrev tupOf (its : Array Value) (n : Nat) : Obj := { cls := .type "tuple", data := .seq its n }

mutual
inductive Val (fa : Nat → Addr) (fz : Led) : V → Value → Prop
  | none : Val fa fz .none .none
  | bool (b : Bool) : Val fa fz (.bool b) (.bool b)
  | int (i : Int) (t : Tok) : Val fa fz (.int i) (.int i t)
  | list {a : Addr} {its : List Value} {n : Nat} {vs : List V} (hm : (a, listOf its.toArray n) ∈ fz) (hv : Vals fa fz vs its) : Val fa fz (.list vs) (.ref a)
  | tup {a : Addr} {its : List Value} {n : Nat} {vs : List V} (hm : (a, tupOf its.toArray n) ∈ fz) (hv : Vals fa fz vs its) : Val fa fz (.tup vs) (.ref a)
  | fn (k : Nat) : Val fa fz (.fn k) (.ref (fa k))
inductive Vals (fa : Nat → Addr) (fz : Led) : List V → List Value → Prop
  | nil : Vals fa fz [] []
  | cons {v : V} {x : Value} {vs : List V} {xs : List Value} (h : Val fa fz v x) (hr : Vals fa fz vs xs) : Vals fa fz (v :: vs) (x :: xs)
end

@[elab_as_elim] theorem Val.listE {fa : Nat → Addr} {fz : Led} {vs : List V} {x : Value} {motive : Value → Prop} (h : Val fa fz (.list vs) x) (k : ∀ (a : Addr) (its : List Value) (n : Nat), (a, listOf its.toArray n) ∈ fz → Vals fa fz vs its → motive (.ref a)) : motive x := by
  cases h with | list hm hv => exact k _ _ _ hm hv
@[elab_as_elim] theorem Val.tupE {fa : Nat → Addr} {fz : Led} {vs : List V} {x : Value} {motive : Value → Prop} (h : Val fa fz (.tup vs) x) (k : ∀ (a : Addr) (its : List Value) (n : Nat), (a, tupOf its.toArray n) ∈ fz → Vals fa fz vs its → motive (.ref a)) : motive x := by
  cases h with | tup hm hv => exact k _ _ _ hm hv
@[elab_as_elim] theorem Val.intE {fa : Nat → Addr} {fz : Led} {i : Int} {x : Value} {motive : Value → Prop} (h : Val fa fz (.int i) x) (k : ∀ t : Tok, motive (.int i t)) : motive x := by
  cases h with | int _ t => exact k t
@[elab_as_elim] theorem Val.fnE {fa : Nat → Addr} {fz : Led} {i : Nat} {x : Value} {motive : Value → Prop} (h : Val fa fz (.fn i) x) (k : motive (.ref (fa i))) : motive x := by
  cases h with | fn _ => exact k
@[elab_as_elim] theorem Vals.consE {fa : Nat → Addr} {fz : Led} {v : V} {vs : List V} {xs : List Value} {motive : List Value → Prop} (h : Vals fa fz (v :: vs) xs) (k : ∀ (x : Value) (ys : List Value), Val fa fz v x → Vals fa fz vs ys → motive (x :: ys)) : motive xs := by
  cases h with | cons h hr => exact k _ _ h hr
@[elab_as_elim] theorem Vals.nilE {fa : Nat → Addr} {fz : Led} {xs : List Value} {motive : List Value → Prop} (h : Vals fa fz [] xs) (k : motive []) : motive xs := by
  cases h; exact k

theorem Val.mono {fa : Nat → Addr} {fz fz' : Led} (hs : ∀ p ∈ fz, p ∈ fz') {v : V} {x : Value} (h : Val fa fz v x) : Val fa fz' v x :=
  Val.rec (motive_1 := fun v x _ => Val fa fz' v x) (motive_2 := fun vs xs _ => Vals fa fz' vs xs) .none (fun b => .bool b) (fun i t => .int i t) (fun hm _ ih => .list (hs _ hm) ih) (fun hm _ ih => .tup (hs _ hm) ih) (fun k => .fn k) .nil (fun _ _ h hr => .cons h hr) h
theorem Vals.mono {fa : Nat → Addr} {fz fz' : Led} (hs : ∀ p ∈ fz, p ∈ fz') {vs : List V} {xs : List Value} (h : Vals fa fz vs xs) : Vals fa fz' vs xs :=
  Vals.rec (motive_1 := fun v x _ => Val fa fz' v x) (motive_2 := fun vs xs _ => Vals fa fz' vs xs) .none (fun b => .bool b) (fun i t => .int i t) (fun hm _ ih => .list (hs _ hm) ih) (fun hm _ ih => .tup (hs _ hm) ih) (fun k => .fn k) .nil (fun _ _ h hr => .cons h hr) h
@[elab_as_elim] theorem Vals.ind {fa : Nat → Addr} {fz : Led} {motive : List V → List Value → Prop} {vs : List V} {xs : List Value} (h : Vals fa fz vs xs) (n : motive [] [])
    (c : ∀ v x vs xs, Val fa fz v x → Vals fa fz vs xs → motive vs xs → motive (v :: vs) (x :: xs)) : motive vs xs :=
  Vals.rec (motive_1 := fun _ _ _ => True) (motive_2 := fun vs xs _ => motive vs xs) trivial (fun _ => trivial) (fun _ _ => trivial) (fun _ _ _ => trivial) (fun _ _ _ => trivial) (fun _ => trivial) n (fun h hr _ ih => c _ _ _ _ h hr ih) h
theorem Vals.length {fa : Nat → Addr} {fz : Led} {vs : List V} {xs : List Value} (h : Vals fa fz vs xs) : xs.length = vs.length :=
  Vals.ind (motive := fun vs xs => xs.length = vs.length) h rfl fun _ _ _ _ _ _ ih => congrArg (· + 1) ih
theorem Vals.append {fa : Nat → Addr} {fz : Led} {vs ws : List V} {xs ys : List Value} (h : Vals fa fz vs xs) (k : Vals fa fz ws ys) : Vals fa fz (vs ++ ws) (xs ++ ys) :=
  Vals.ind (motive := fun vs xs => Vals fa fz (vs ++ ws) (xs ++ ys)) h k fun _ _ _ _ h _ ih => .cons h ih
theorem Vals.get {fa : Nat → Addr} {fz : Led} {vs : List V} {xs : List Value} (h : Vals fa fz vs xs) : ∀ {i : Nat} {v : V}, vs[i]? = some v → ∃ x, xs[i]? = some x ∧ Val fa fz v x :=
  Vals.ind (motive := fun vs xs => ∀ {i : Nat} {v : V}, vs[i]? = some v → ∃ x, xs[i]? = some x ∧ Val fa fz v x) h (fun e => by simp at e) fun _ _ _ _ h _ ih i => by
    cases i with
    | zero => intro v e; cases e; exact ⟨_, rfl, h⟩
    | succ i => intro v e; exact ih e
theorem Vals.at {fa : Nat → Addr} {fz : Led} {vs : List V} {xs : List Value} (h : Vals fa fz vs xs) : ∀ {i : Nat} {x : Value}, xs[i]? = some x → ∃ v, vs[i]? = some v ∧ Val fa fz v x :=
  Vals.ind (motive := fun vs xs => ∀ {i : Nat} {x : Value}, xs[i]? = some x → ∃ v, vs[i]? = some v ∧ Val fa fz v x) h (fun e => by simp at e) fun _ _ _ _ h _ ih i => by
    cases i with
    | zero => intro v e; cases e; exact ⟨_, rfl, h⟩
    | succ i => intro v e; exact ih e
theorem Vals.take {fa : Nat → Addr} {fz : Led} {vs : List V} {xs : List Value} (h : Vals fa fz vs xs) : ∀ k, Vals fa fz (vs.take k) (xs.take k) :=
  Vals.ind (motive := fun vs xs => ∀ k, Vals fa fz (vs.take k) (xs.take k)) h (fun k => by rw [List.take_nil, List.take_nil]; exact .nil) fun _ _ _ _ h _ ih k => by
    cases k with
    | zero => exact .nil
    | succ k => exact .cons h (ih k)
theorem Vals.drop {fa : Nat → Addr} {fz : Led} {vs : List V} {xs : List Value} (h : Vals fa fz vs xs) : ∀ k, Vals fa fz (vs.drop k) (xs.drop k) :=
  Vals.ind (motive := fun vs xs => ∀ k, Vals fa fz (vs.drop k) (xs.drop k)) h (fun k => by rw [List.drop_nil, List.drop_nil]; exact .nil) fun _ _ _ _ h hr ih k => by
    cases k with
    | zero => exact .cons h hr
    | succ k => exact ih k
theorem Vals.set {fa : Nat → Addr} {fz : Led} {w : V} {y : Value} (hw : Val fa fz w y) {vs : List V} {xs : List Value} (h : Vals fa fz vs xs) : ∀ k, Vals fa fz (vs.set k w) (xs.set k y) :=
  Vals.ind (motive := fun vs xs => ∀ k, Vals fa fz (vs.set k w) (xs.set k y)) h (fun _ => .nil) fun _ _ _ _ h hr ih k => by
    cases k with
    | zero => exact .cons hw hr
    | succ k => exact .cons h (ih k)
theorem Vals.reverse {fa : Nat → Addr} {fz : Led} {vs : List V} {xs : List Value} (h : Vals fa fz vs xs) : Vals fa fz vs.reverse xs.reverse :=
  Vals.ind (motive := fun vs xs => Vals fa fz vs.reverse xs.reverse) h .nil fun _ _ _ _ h _ ih => by
    rw [List.reverse_cons, List.reverse_cons]
    exact ih.append (.cons h .nil)
theorem Vals.rep {fa : Nat → Addr} {fz : Led} {vs : List V} {xs : List Value} (h : Vals fa fz vs xs) : ∀ n : Nat, Vals fa fz (List.replicate n vs).flatten (List.replicate n xs).flatten
  | 0 => .nil
  | n + 1 => by
    simp only [List.replicate_succ, List.flatten_cons]
    exact h.append (h.rep n)
theorem Vals.ints {fa : Nat → Addr} {fz : Led} {vs : List V} {xs : List Value} (h : Vals fa fz vs xs) : ∀ {ns : List Int}, intsV vs = some ns → IntsAre xs ns :=
  Vals.ind (motive := fun vs xs => ∀ {ns : List Int}, intsV vs = some ns → IntsAre xs ns) h (fun e => by cases e; exact .nil) fun v _ _ _ h _ ih ns e => by
    cases v with
    | int i =>
      simp only [intsV, Option.map_eq_some_iff] at e
      obtain ⟨r, e1, rfl⟩ := e
      exact Val.intE h fun t => .cons i t (ih e1)
    | _ => cases e
theorem Vals.ofInts {fa : Nat → Addr} {fz : Led} {xs : List Value} {ns : List Int} (h : IntsAre xs ns) : Vals fa fz (ns.map .int) xs := by
  induction h with
  | nil => exact .nil
  | cons n t h ih => exact .cons (.int n t) ih

set_option genInjectivity false in
structure Cx where
  prog : Program
  w : World
  K : Frag
  p : Program
  loose : List Str
  mean : ExcName → Option Value
  mg : Str → Option Value
  mb : Str → Option Value
  fa : Nat → Addr
  cn : Str
  cs : Scope
  L : Addr
  f : Addr
  ccd : Value
  cl : List (Str × Addr)
  names : List Str
  A : Around
  A₀ : Around
  base : Heap
  h₀ : Heap
  outer : List Env
noncomputable def Cx.env (c : Cx) : Env := envX c.cn c.cs c.L c.f c.ccd c.cl

structure OwnAt (fa : Nat → Addr) (h₀ : Heap) (L : Addr) (h : Heap) (fz ex : Led) (a : Addr) (vs : List V) : Prop where
  get : ∃ its n, h.get? a = some (listOf (its : List Value).toArray n) ∧ Vals fa fz vs its
  ne : a ≠ L
  new : h₀.get? a = none
  offF : ∀ q ∈ fz, q.1 ≠ a
  offE : ∀ q ∈ ex, q.1 ≠ a

noncomputable def Loads (cs : Scope) (cl : List (Str × Addr)) (fz : Led) (m : Str → Option Value) (x : Str) (vv : Value) : Prop :=
  (cs.names.lookup x = some .local ∧ m x = some vv) ∨ ((cs.names.lookup x = some .free ∨ cs.names.lookup x = some .cell) ∧ ∃ a o, cl.lookup x = some a ∧ (a, o) ∈ fz ∧ o.data = .cell (some vv))
theorem Loads.mono {cs : Scope} {cl : List (Str × Addr)} {fz fz' : Led} {m : Str → Option Value} {x : Str} {vv : Value} (hs : ∀ p ∈ fz, p ∈ fz') : Loads cs cl fz m x vv → Loads cs cl fz' m x vv
  | .inl h => .inl h
  | .inr ⟨h1, a, o, h2, h3, h4⟩ => .inr ⟨h1, a, o, h2, hs _ h3, h4⟩

noncomputable def SlotOk (c : Cx) (h : Heap) (m : Str → Option Value) (fz ex : Led) (x : Str) : Slot → Prop
  | .unset => True
  | .val v => ∃ vv, Loads c.cs c.cl fz m x vv ∧ Val c.fa fz v vv
  | .own vs => c.cs.names.lookup x = some .local ∧ ∃ a, m x = some (.ref a) ∧ OwnAt c.fa c.h₀ c.L h fz ex a vs
  | .io vs => c.cs.names.lookup x = some .local ∧ ∃ a, m x = some (.ref a) ∧ OwnAt c.fa c.h₀ c.L h fz ex a vs

structure FSt (c : Cx) (h : Heap) (m : Str → Option Value) (fz ex : Led) (fr : Frame) : Prop where
  F : Fr c.h₀ c.L h m
  N : News c.h₀ c.L h (fz ++ ex)
  dis : ∀ q ∈ fz, ∀ r ∈ ex, q.1 ≠ r.1
  sl : ∀ (i : Nat) (s : Slot), fr[i]? = some s → ∃ x, c.names[i]? = some x ∧ SlotOk c h m fz ex x s
  apart : ∀ (i j : Nat) (s t : Slot) (x y : Str) (a b : Addr), i ≠ j → fr[i]? = some s → fr[j]? = some t → s.owned = true → t.owned = true → c.names[i]? = some x → c.names[j]? = some y → m x = some (.ref a) → m y = some (.ref b) → a ≠ b

noncomputable def OffOwn (c : Cx) (m : Str → Option Value) (fr : Frame) (a : Addr) : Prop :=
  ∀ (i : Nat) (s : Slot) (x : Str) (b : Addr), fr[i]? = some s → s.owned = true → c.names[i]? = some x → m x = some (.ref b) → b ≠ a

noncomputable def RV (c : Cx) (h : Heap) (m : Str → Option Value) (fz ex : Led) (fr : Frame) (vv : Value) : R → Prop
  | .val v => Val c.fa fz v vv
  | .fresh vs => ∃ a, vv = .ref a ∧ OwnAt c.fa c.h₀ c.L h fz ex a vs ∧ OffOwn c m fr a

section
variable {c : Cx} {h h' : Heap} {m : Str → Option Value} {fz fz' ex : Led} {fr : Frame}

theorem OwnAt.keep {fa : Nat → Addr} {h₀ : Heap} {L : Addr} {a : Addr} {vs : List V} (O : OwnAt fa h₀ L h fz ex a vs) (hk : ∀ o, h.get? a = some o → h'.get? a = some o) : OwnAt fa h₀ L h' fz ex a vs :=
  let ⟨its, n, e, hv⟩ := O.get; ⟨⟨its, n, hk _ e, hv⟩, O.ne, O.new, O.offF, O.offE⟩
theorem OwnAt.addF {fa : Nat → Addr} {h₀ : Heap} {L : Addr} {a b : Addr} {o : Obj} {vs : List V} (O : OwnAt fa h₀ L h fz ex a vs) (hb : b ≠ a) : OwnAt fa h₀ L h ((b, o) :: fz) ex a vs :=
  let ⟨its, n, e, hv⟩ := O.get
  ⟨⟨its, n, e, hv.mono fun _ => .tail _⟩, O.ne, O.new, fun q hq => by rcases List.mem_cons.mp hq with rfl | hq; exact hb; exact O.offF q hq, O.offE⟩
theorem OwnAt.lt {fa : Nat → Addr} {h₀ : Heap} {L : Addr} {a : Addr} {vs : List V} (O : OwnAt fa h₀ L h fz ex a vs) : a < h.objs.size :=
  let ⟨_, _, e, _⟩ := O.get; Heap.lt_size e
theorem OwnAt.isList {fa : Nat → Addr} {h₀ : Heap} {L : Addr} {a : Addr} {vs : List V} (O : OwnAt fa h₀ L h fz ex a vs) : ∃ its, h.IsList a its.toArray ∧ Vals fa fz vs its :=
  let ⟨its, n, e, hv⟩ := O.get; ⟨its, ⟨_, e, rfl, n, rfl⟩, hv⟩

theorem SlotOk.keep {x : Str} {s : Slot} (S : SlotOk c h m fz ex x s) (hk : ∀ b o, h.get? b = some o → h'.get? b = some o) : SlotOk c h' m fz ex x s := by
  cases s with
  | unset => trivial
  | val v => exact S
  | own vs => obtain ⟨k, a, e, O⟩ := S; exact ⟨k, a, e, O.keep fun o => hk a o⟩
  | io vs => obtain ⟨k, a, e, O⟩ := S; exact ⟨k, a, e, O.keep fun o => hk a o⟩

theorem frKeep {h₀ : Heap} {L : Addr} (F : Fr h₀ L h m) (hk : ∀ b o, h.get? b = some o → h'.get? b = some o) : Fr h₀ L h' m :=
  ⟨F.ns.keeps hk, fun b o e => hk b o (F.keep b o e), F.above⟩
theorem newsKeep {h₀ : Heap} {L : Addr} {news : Led} (N : News h₀ L h news) (hk : ∀ b o, h.get? b = some o → h'.get? b = some o) : News h₀ L h' news :=
  fun p hp => ⟨hk _ _ (N p hp).1, (N p hp).2⟩

theorem FSt.keep (S : FSt c h m fz ex fr) (hk : ∀ b o, h.get? b = some o → h'.get? b = some o) : FSt c h' m fz ex fr :=
  ⟨frKeep S.F hk, newsKeep S.N hk, S.dis, fun i s e => let ⟨x, hx, y⟩ := S.sl i s e; ⟨x, hx, y.keep hk⟩, S.apart⟩
theorem FSt.push (S : FSt c h m fz ex fr) (o : Obj) : FSt c (h.push o) m fz ex fr := S.keep fun _ _ e => Heap.get?_push_of_some _ e

theorem FSt.ofFz (S : FSt c h m fz ex fr) {a : Addr} {o : Obj} (hm : (a, o) ∈ fz) : h.get? a = some o := (S.N _ (List.mem_append_left _ hm)).1
theorem FSt.ofEx (S : FSt c h m fz ex fr) {a : Addr} {o : Obj} (hm : (a, o) ∈ ex) : h.get? a = some o := (S.N _ (List.mem_append_right _ hm)).1

theorem FSt.add (S : FSt c h m fz ex fr) {a : Addr} {o : Obj} (hg : h.get? a = some o) (hL : a ≠ c.L) (hn : c.h₀.get? a = none) (hE : ∀ q ∈ ex, q.1 ≠ a) (hO : OffOwn c m fr a) : FSt c h m ((a, o) :: fz) ex fr := by
  refine ⟨S.F, fun p hp => ?_, fun q hq r hr => ?_, fun i s e => ?_, S.apart⟩
  · rcases List.mem_cons.mp hp with rfl | hp
    · exact ⟨hg, hL, hn⟩
    · exact S.N p hp
  · rcases List.mem_cons.mp hq with rfl | hq
    · exact Ne.symm (hE r hr)
    · exact S.dis q hq r hr
  · obtain ⟨x, hx, y⟩ := S.sl i s e
    refine ⟨x, hx, ?_⟩
    cases s with
    | unset => trivial
    | val v => obtain ⟨vv, l, v'⟩ := y; exact ⟨vv, l.mono fun _ => .tail _, v'.mono fun _ => .tail _⟩
    | own vs => obtain ⟨k, b, e', O⟩ := y; exact ⟨k, b, e', O.addF (Ne.symm (hO i _ x b e rfl hx e'))⟩
    | io vs => obtain ⟨k, b, e', O⟩ := y; exact ⟨k, b, e', O.addF (Ne.symm (hO i _ x b e rfl hx e'))⟩

theorem FSt.lt (S : FSt c h m fz ex fr) {i : Nat} {s : Slot} {x : Str} {b : Addr} (e : fr[i]? = some s) (ho : s.owned = true) (hx : c.names[i]? = some x) (hm : m x = some (.ref b)) : b < h.objs.size := by
  obtain ⟨y, hy, O⟩ := S.sl i s e
  rw [hx] at hy; cases hy
  cases s with
  | unset => cases ho
  | val v => cases ho
  | own vs => obtain ⟨_, a, e', O⟩ := O; rw [hm] at e'; cases e'; exact O.lt
  | io vs => obtain ⟨_, a, e', O⟩ := O; rw [hm] at e'; cases e'; exact O.lt

theorem FSt.newAddr (S : FSt c h m fz ex fr) : h.objs.size ≠ c.L ∧ c.h₀.get? h.objs.size = none ∧ (∀ q ∈ fz, q.1 ≠ h.objs.size) ∧ (∀ q ∈ ex, q.1 ≠ h.objs.size) ∧ OffOwn c m fr h.objs.size := by
  refine ⟨Nat.ne_of_gt S.F.ns.lt, ?_, fun q hq => Nat.ne_of_lt (Heap.lt_size (S.N q (List.mem_append_left _ hq)).1), fun q hq => Nat.ne_of_lt (Heap.lt_size (S.N q (List.mem_append_right _ hq)).1), fun i s x b e ho hx hm => Nat.ne_of_lt (S.lt e ho hx hm)⟩
  cases q : c.h₀.get? h.objs.size with
  | none => rfl
  | some o => exact absurd (Heap.lt_size (S.F.keep _ _ q)) (Nat.lt_irrefl _)

theorem FSt.freshList (S : FSt c h m fz ex fr) {its : List Value} {n : Nat} {vs : List V} (hv : Vals c.fa fz vs its) :
    RV c (h.push (listOf its.toArray n)) m fz ex fr (.ref h.objs.size) (.fresh vs) := by
  obtain ⟨h1, h2, h3, h4, h5⟩ := S.newAddr
  exact ⟨_, rfl, ⟨⟨its, n, Heap.get?_push_size _ rfl, hv⟩, h1, h2, h3, h4⟩, h5⟩
theorem FSt.freshTup (S : FSt c h m fz ex fr) {its : List Value} {n : Nat} {vs : List V} (hv : Vals c.fa fz vs its) :
    FSt c (h.push (tupOf its.toArray n)) m ((h.objs.size, tupOf its.toArray n) :: fz) ex fr ∧ Val c.fa ((h.objs.size, tupOf its.toArray n) :: fz) (.tup vs) (.ref h.objs.size) := by
  obtain ⟨h1, h2, h3, h4, h5⟩ := S.newAddr
  exact ⟨(S.push _).add (Heap.get?_push_size _ rfl) h1 h2 h4 h5, .tup (.head _) (hv.mono fun _ => .tail _)⟩

theorem RV.freeze (S : FSt c h m fz ex fr) {r : R} {vv : Value} (hr : RV c h m fz ex fr vv r) : ∃ fz', (∀ p ∈ fz, p ∈ fz') ∧ FSt c h m fz' ex fr ∧ Val c.fa fz' r.v vv := by
  cases r with
  | val v => exact ⟨fz, fun _ e => e, S, hr⟩
  | fresh vs =>
    obtain ⟨a, rfl, O, off⟩ := hr
    obtain ⟨its, n, e, hv⟩ := O.get
    exact ⟨_, fun _ => .tail _, S.add e O.ne O.new O.offE off, .list (.head _) (hv.mono fun _ => .tail _)⟩
end
end Mine
namespace Mine
section
variable {c : Cx} {h h' : Heap} {m : Str → Option Value} {fz fz' ex : Led} {fr : Frame}

noncomputable def ownEnts (c : Cx) (h : Heap) (m : Str → Option Value) (fr : Frame) (skip : Option Nat) : Led :=
  (List.range fr.length).filterMap fun i => if skip = some i then none else match fr[i]?, c.names[i]? with
    | some s, some x => if s.owned then (match m x with
      | some (.ref a) => (h.get? a).map fun o => (a, o)
      | _ => none) else none
    | _, _ => none

theorem mem_ownEnts {skip : Option Nat} {q : Addr × Obj} (hq : q ∈ ownEnts c h m fr skip) : ∃ (i : Nat) (s : Slot) (x : Str), skip ≠ some i ∧ fr[i]? = some s ∧ s.owned = true ∧ c.names[i]? = some x ∧ m x = some (.ref q.1) ∧ h.get? q.1 = some q.2 := by
  unfold ownEnts at hq
  obtain ⟨i, hi, e⟩ := List.mem_filterMap.mp hq
  split at e
  · cases e
  · rename_i hs
    split at e
    · rename_i s x h1 h2
      split at e
      · rename_i ho
        split at e
        · rename_i a hm
          obtain ⟨o, ho', rfl⟩ := Option.map_eq_some_iff.mp e
          exact ⟨i, s, x, hs, h1, ho, h2, hm, ho'⟩
        · cases e
      · cases e
    · cases e
theorem ownEnts_mem {skip : Option Nat} {i : Nat} {s : Slot} {x : Str} {a : Addr} {o : Obj} (hs : skip ≠ some i) (e : fr[i]? = some s) (ho : s.owned = true) (hx : c.names[i]? = some x) (hm : m x = some (.ref a)) (hg : h.get? a = some o) :
    (a, o) ∈ ownEnts c h m fr skip := by
  unfold ownEnts
  refine List.mem_filterMap.mpr ⟨i, List.mem_range.mpr ?_, ?_⟩
  · have := List.getElem?_eq_some_iff.mp e; exact this.1
  · rw [if_neg hs, e, hx]
    simp only [ho, if_true, hm, hg, Option.map_some]

theorem FSt.ownAt (S : FSt c h m fz ex fr) {i : Nat} {s : Slot} {x : Str} {a : Addr} (e : fr[i]? = some s) (ho : s.owned = true) (hx : c.names[i]? = some x) (hm : m x = some (.ref a)) :
    ∃ vs, (s = .own vs ∨ s = .io vs) ∧ OwnAt c.fa c.h₀ c.L h fz ex a vs := by
  obtain ⟨y, hy, O⟩ := S.sl i s e
  rw [hx] at hy; cases hy
  cases s with
  | unset => cases ho
  | val v => cases ho
  | own vs => obtain ⟨_, b, e', O⟩ := O; rw [hm] at e'; cases e'; exact ⟨vs, .inl rfl, O⟩
  | io vs => obtain ⟨_, b, e', O⟩ := O; rw [hm] at e'; cases e'; exact ⟨vs, .inr rfl, O⟩

theorem FSt.ownNews (S : FSt c h m fz ex fr) (skip : Option Nat) : News c.h₀ c.L h (ownEnts c h m fr skip) ∧ ∀ q ∈ ownEnts c h m fr skip, (∀ r ∈ fz, r.1 ≠ q.1) ∧ ∀ r ∈ ex, r.1 ≠ q.1 := by
  refine ⟨fun q hq => ?_, fun q hq => ?_⟩
  · obtain ⟨i, s, x, _, e, ho, hx, hm, hg⟩ := mem_ownEnts hq
    obtain ⟨vs, _, O⟩ := S.ownAt e ho hx hm
    exact ⟨hg, O.ne, O.new⟩
  · obtain ⟨i, s, x, _, e, ho, hx, hm, hg⟩ := mem_ownEnts hq
    obtain ⟨vs, _, O⟩ := S.ownAt e ho hx hm
    exact ⟨O.offF, O.offE⟩

theorem FSt.rebuild (S : FSt c h m fz ex fr) (hs : ∀ p ∈ fz, p ∈ fz') (F : Fr c.h₀ c.L h' m) (N : News c.h₀ c.L h' (fz' ++ ex)) (NO : News c.h₀ c.L h' (ownEnts c h m fr none)) (dis : ∀ q ∈ fz', ∀ r ∈ ex, q.1 ≠ r.1) (disO : ∀ q ∈ fz', ∀ r ∈ ownEnts c h m fr none, q.1 ≠ r.1) : FSt c h' m fz' ex fr := by
  refine ⟨F, N, dis, fun i s e => ?_, S.apart⟩
  obtain ⟨x, hx, y⟩ := S.sl i s e
  refine ⟨x, hx, ?_⟩
  cases s with
  | unset => trivial
  | val v => obtain ⟨vv, l, v'⟩ := y; exact ⟨vv, l.mono hs, v'.mono hs⟩
  | own vs =>
    obtain ⟨k, a, e', O⟩ := y
    obtain ⟨its, n, eg, hv⟩ := O.get
    have hm := ownEnts_mem (c := c) (h := h) (m := m) (fr := fr) (skip := none) (by simp) e rfl hx e' eg
    exact ⟨k, a, e', ⟨its, n, (NO _ hm).1, hv.mono hs⟩, O.ne, O.new, fun q hq => disO q hq _ hm, O.offE⟩
  | io vs =>
    obtain ⟨k, a, e', O⟩ := y
    obtain ⟨its, n, eg, hv⟩ := O.get
    have hm := ownEnts_mem (c := c) (h := h) (m := m) (fr := fr) (skip := none) (by simp) e rfl hx e' eg
    exact ⟨k, a, e', ⟨its, n, (NO _ hm).1, hv.mono hs⟩, O.ne, O.new, fun q hq => disO q hq _ hm, O.offE⟩

noncomputable abbrev FSt.all (_S : FSt c h m fz ex fr) : Led := ownEnts c h m fr none ++ (fz ++ ex)
theorem FSt.allN (S : FSt c h m fz ex fr) : News c.h₀ c.L h S.all := fun p hp => by
  rcases List.mem_append.mp hp with hp | hp
  · exact (S.ownNews none).1 p hp
  · exact S.N p hp
theorem FSt.back (S : FSt c h m fz ex fr) (F : Fr c.h₀ c.L h' m) (N : News c.h₀ c.L h' S.all) : FSt c h' m fz ex fr :=
  S.rebuild (fun _ e => e) F (fun p hp => N p (List.mem_append_right _ hp)) (fun p hp => N p (List.mem_append_left _ hp)) S.dis fun q hq r hr => ((S.ownNews none).2 r hr).1 q hq

theorem FSt.newAt (S : FSt c h m fz ex fr) {a : Addr} (ha : h.objs.size ≤ a) : a ≠ c.L ∧ c.h₀.get? a = none ∧ (∀ q ∈ fz, q.1 ≠ a) ∧ (∀ q ∈ ex, q.1 ≠ a) ∧ OffOwn c m fr a := by
  refine ⟨Nat.ne_of_gt (Nat.lt_of_lt_of_le S.F.ns.lt ha), ?_, fun q hq => Nat.ne_of_lt (Nat.lt_of_lt_of_le (Heap.lt_size (S.N q (List.mem_append_left _ hq)).1) ha), fun q hq => Nat.ne_of_lt (Nat.lt_of_lt_of_le (Heap.lt_size (S.N q (List.mem_append_right _ hq)).1) ha), fun i s x b e ho hx hm => Nat.ne_of_lt (Nat.lt_of_lt_of_le (S.lt e ho hx hm) ha)⟩
  cases q : c.h₀.get? a with
  | none => rfl
  | some o => exact absurd (Heap.lt_size (S.F.keep _ _ q)) (Nat.not_lt.mpr ha)
theorem FSt.newList (S : FSt c h m fz ex fr) {its : List Value} {n : Nat} {vs : List V} {a : Addr} (ha : h.objs.size ≤ a) (hg : h'.get? a = some (listOf its.toArray n)) (hv : Vals c.fa fz vs its) :
    RV c h' m fz ex fr (.ref a) (.fresh vs) := by
  obtain ⟨h1, h2, h3, h4, h5⟩ := S.newAt ha
  exact ⟨_, rfl, ⟨⟨its, n, hg, hv⟩, h1, h2, h3, h4⟩, h5⟩
end
end Mine
end PRel

section PSnd1
set_option maxRecDepth 100000
open PySem PySem.W PySem.Spec PySem.Calls PyProof.Rows
namespace Mine

noncomputable def BOp.op : BOp → Operator
  | .add => .Add
  | .sub => .Sub
  | .mul => .Mult
  | .div => .FloorDiv
  | .mod => .Mod
  | .shl => .LShift
  | .shr => .RShift
  | .band => .BitAnd
  | .bor => .BitOr
  | .pow => .Pow
noncomputable def COp.op : COp → CmpOp
  | .eq => .Eq
  | .ne => .NotEq
  | .lt => .Lt
  | .le => .LtE
  | .gt => .Gt
  | .ge => .GtE

noncomputable abbrev NoE : Value → Shared → Prop := fun _ _ => False

section
variable {prog : Program} {w : World} {A : Around} {E : Value → Shared → Prop} {s : Shared} {Q : Value → Shared → Prop}

theorem bits64 {a : Int} (h : a.natAbs < lim) : Builtin.Int.intBits a ≤ 64 := by
  have := intBits_le_64 (k := a) (by unfold lim at h; omega) (by unfold lim at h; omega)
  exact this

theorem binI_sound {op : BOp} {a b r : Int} {t u : Tok} (h : binI op a b = some r) (hA : ∀ tk, Q (.int r tk) { s with toks := s.toks + 1 }) :
    wpAny (model prog w) A (binaryOp op.op (.int a t) (.int b u)) Q E s := by
  cases op <;> simp only [binI] at h
  case add => cases h; exact add_int (hA _)
  case sub => cases h; exact sub_int (hA _)
  case mul =>
    split at h
    · rename_i hh; cases h; exact mul_int (hA _) (IntMulOk.of_left (bits64 hh.1))
    · cases h
  case div =>
    split at h
    · rename_i hh; cases h
      exact floordiv_int hh.1 (hA _) (.inl (PyProof.noPylong_of_log2 (by
        have h2 := hh.2.2
        unfold lim at h2
        have := Nat.log2_lt (n := b.natAbs) (k := 64)
        by_cases h0 : b.natAbs = 0
        · rw [h0]; decide
        · have := (Nat.log2_lt h0 (k := 64)).mpr (by with_reducible exact lt_dn2 (by assumption) (by decide))
          with_reducible exact lt_dn2 (by assumption) (by decide))))
    · cases h
  case mod =>
    split at h
    · rename_i hh; cases h; exact mod_int hh (hA _)
    · cases h
  case shl =>
    split at h
    · rename_i hh; cases h
      exact lshift_int_small hh.1 (by omega) (by have := hh.2.2; unfold lim at this; with_reducible exact lt_dn2 (by assumption) (by decide)) (hA _)
    · cases h
  case shr =>
    split at h
    · rename_i hh; cases h; exact rshift_int hh (hA _)
    · cases h
  case band => cases h; exact and_int (hA _)
  case bor => cases h; exact or_int (hA _)
  case pow =>
    split at h
    · rename_i hh; cases h
      exact pow_int_small hh.1 (by omega) (by have := hh.2.2; unfold lim at this; with_reducible exact lt_dn2 (by assumption) (by decide)) (hA _)
    · cases h

theorem augI_sound {op : BOp} {a b r : Int} {t u : Tok} (h : binI op a b = some r) (hop : op = .add ∨ op = .sub ∨ op = .mod ∨ op = .shr ∨ op = .bor) (hA : ∀ tk, Q (.int r tk) { s with toks := s.toks + 1 }) :
    wpAny (model prog w) A (inplaceOp op.op (.int a t) (.int b u)) Q E s := by
  cases op <;> simp only [binI] at h
  case add => cases h; exact iadd_int (hA _)
  case sub => cases h; exact isub_int (hA _)
  case mod =>
    split at h
    · rename_i hh; cases h; exact imod_int hh (hA _)
    · cases h
  case shr =>
    split at h
    · rename_i hh; cases h; exact irshift_int hh (hA _)
    · cases h
  case bor => cases h; exact ior_int (hA _)
  all_goals simp at hop

theorem cmpI_sound {op : COp} {a b : Int} {t u : Tok} (hA : Q (.bool (cmpI op a b)) s) :
    wpAny (model prog w) A (compareOp op.op (.int a t) (.int b u)) Q E s := by
  cases op <;> simp only [cmpI] at hA
  case eq => exact eq_int (by simpa [BEq.beq] using hA)
  case ne => exact ne_int (by simpa [bne, BEq.beq] using hA)
  case lt => exact lt_int hA
  case le => exact P.le_int hA
  case gt => exact gt_int hA
  case ge => exact P.ge_int hA
end

noncomputable def Kont (c : Cx) (m : Str → Option Value) (fz ex : Led) (r : R) (fr : Frame) (s : Shared) (Q : Value → Shared → Prop) : Prop :=
  ∀ vv fz' h' tk', (∀ p ∈ fz, p ∈ fz') → FSt c h' m fz' ex fr → RV c h' m fz' ex fr vv r → Q vv { s with heap := h', toks := tk' }
noncomputable def KontV (c : Cx) (m : Str → Option Value) (fz ex : Led) (v : V) (fr : Frame) (s : Shared) (Q : Value → Shared → Prop) : Prop :=
  ∀ vv fz' h' tk', (∀ p ∈ fz, p ∈ fz') → FSt c h' m fz' ex fr → Val c.fa fz' v vv → Q vv { s with heap := h', toks := tk' }
theorem KontV.toK {c : Cx} {m : Str → Option Value} {fz ex : Led} {r : R} {fr : Frame} {s : Shared} {Q : Value → Shared → Prop} (k : KontV c m fz ex r.v fr s Q) : Kont c m fz ex r fr s Q := by
  intro vv fz' h' tk' hs S hr
  obtain ⟨fz2, h2, S2, v⟩ := hr.freeze S
  exact k vv fz2 h' tk' (fun p hp => h2 p (hs p hp)) S2 v

section
variable {c : Cx} {m : Str → Option Value} {fz ex : Led} {fr : Frame} {s : Shared} {Q : Value → Shared → Prop} {E : Value → Shared → Prop}

theorem isList_fz (S : FSt c s.heap m fz ex fr) {a : Addr} {its : List Value} {n : Nat} (hm : (a, listOf its.toArray n) ∈ fz) : s.heap.IsList a its.toArray := ⟨_, S.ofFz hm, rfl, n, rfl⟩
theorem isTup_fz (S : FSt c s.heap m fz ex fr) {a : Addr} {its : List Value} {n : Nat} (hm : (a, tupOf its.toArray n) ∈ fz) : IsTup s.heap a its.toArray := ⟨_, S.ofFz hm, rfl, n, rfl⟩

theorem rep_arr {its : List Value} (hne : its ≠ []) (i : Nat) : (List.foldl (fun x1 x2 => x1 ++ x2) #[] (List.replicate (if (its.toArray).isEmpty = true then 0 else i) its.toArray)) = ((List.replicate i its).flatten).toArray := by
  rw [listMul_foldl]
  simp [hne]

theorem bin_sound (S : FSt c s.heap m fz ex fr) {op : BOp} {a b : V} {r : R} {av bv : Value} (h : bin op a b = some r) (ha : Val c.fa fz a av) (hb : Val c.fa fz b bv) (k : Kont c m fz ex r fr s Q) :
    wpAny (model c.prog c.w) c.A (binaryOp op.op av bv) Q E s := by
  unfold bin at h
  split at h
  · refine Val.intE ha fun t => ?_
    refine Val.intE hb fun u => ?_
    simp only [Option.map_eq_some_iff] at h
    obtain ⟨i, hi, rfl⟩ := h
    exact binI_sound hi fun tk => k _ fz s.heap _ (fun _ e => e) S (.int i tk)
  · refine Val.listE ha fun _ _ _ hm hv => ?_
    refine Val.listE hb fun _ _ _ hm' hv' => ?_
    split at h
    · rename_i hle
      cases h
      have l1 := hv.length
      have l2 := hv'.length
      refine add_arrays S.F S.allN (isList_fz S hm) (isList_fz S hm') (fun h' F' N' => ?_) (by simp [l1, l2]; unfold lenLim at hle; unfold sizeLine; with_reducible exact le_dn (by assumption) (by decide))
      exact k _ fz h' _ (fun _ e => e) (S.back F' fun p hp => N' p (.tail _ hp)) (S.newList (Nat.le_refl _) (N' _ (.head _)).1 (by simpa using hv.append hv'))
    · cases h
  · refine Val.listE ha fun _ _ _ hm hv => ?_
    refine Val.intE hb fun u => ?_
    split at h
    · rename_i hle
      cases h
      have l1 := hv.length
      obtain ⟨hne, hn, hl⟩ := hle
      have hne' : ∀ l : List Value, l.length = _ → l ≠ [] := fun l hl e => by subst e; simp at hl; exact hne (List.eq_nil_of_length_eq_zero hl.symm)
      refine mul_list S.F S.allN (S.ofFz hm) (by unfold lim at hn; omega) (by unfold lim at hn; omega) (by simp [l1]; unfold lenLim at hl; with_reducible exact le_dn (by assumption) (by decide)) fun h' F' N' => ?_
      rw [rep_arr (hne' _ l1)] at N'
      exact k _ fz h' _ (fun _ e => e) (S.back F' fun p hp => N' p (.tail _ hp)) (S.newList (Nat.le_refl _) (N' _ (.head _)).1 (hv.rep _))
    · cases h
  · cases h
end
end Mine
end PSnd1

section PSyn
set_option maxRecDepth 100000
open PySem PySem.W PySem.Spec PySem.Calls PyProof.Rows
namespace Mine

noncomputable def okName (x : Str) : Bool := !(x == ("__debug__" : Str)) && !(x == ("__classdict__" : Str))

noncomputable def BName (K : Frag) (cs : Scope) (x : Str) : Prop := nsIn K mainGlobals x = some none ∧ cs.names.lookup x = some .globalImplicit

theorem mark_no (op : COp) (e : Expr) : behindInMarks op.op e = false := by
  cases e with
  | Set elts k pos =>
    have h : ∀ a b : Bool, (a && false && b) = false := by decide
    cases op <;> exact h _ _
  | _ => rfl

inductive TNs (cs : Scope) (names : List Str) : List Nat → List Expr → Prop
  | nil : TNs cs names [] []
  | cons {i : Nat} {is : List Nat} {x : Str} {p : Pos} {xs : List Expr} (hx : names[i]? = some x) (hl : cs.names.lookup x = some .local) (hr : TNs cs names is xs) : TNs cs names (i :: is) (.Name x p :: xs)

noncomputable def KeepsIo (fr fr' : Frame) : Prop := ∀ (i : Nat) (vs : List V), fr[i]? = some (.io vs) → ∃ vs', fr'[i]? = some (.io vs')
theorem KeepsIo.refl (fr : Frame) : KeepsIo fr fr := fun _ vs e => ⟨vs, e⟩
theorem KeepsIo.trans {a b d : Frame} (h : KeepsIo a b) (k : KeepsIo b d) : KeepsIo a d := fun i vs e => let ⟨_, e'⟩ := h i vs e; k i _ e'
theorem KeepsIo.set {fr : Frame} {i : Nat} {s : Slot} (h : ∀ vs, fr[i]? = some (.io vs) → ∃ vs', s = .io vs') : KeepsIo fr (fr.set i s) := fun j vs e => by
  by_cases hj : i = j
  · subst hj
    obtain ⟨vs', rfl⟩ := h vs e
    exact ⟨vs', List.getElem?_set_self (List.getElem?_eq_some_iff.mp e).1⟩
  · exact ⟨vs, by rw [List.getElem?_set_ne hj]; exact e⟩

end Mine
end PSyn

section PSnd2
set_option maxRecDepth 100000
open PySem PySem.W PySem.Spec PySem.Calls PyProof.Rows
namespace Mine

structure CxOk (c : Cx) (d : Nat) : Prop where
  B : Below c.A₀ c.base c.outer c.h₀
  X : c.K.In c.h₀
  T : Top c.p c.loose c.mean c.mg c.mb c.h₀
  hh : c.A.handled = none
  fr : c.A.frames = some (c.env :: c.outer)
  dep : c.A.depth + d < recursionLimit
  un : c.A.units + 8 * d + 100 < cLine
  kind : c.cs.kind = .function
  nod : c.names.Nodup

noncomputable def EOk (c : Cx) (Z : Led) (e' : Expr) (fr : Frame) (r : R) (fr' : Frame) : Prop :=
  ∀ (m : Str → Option Value) (fz ex : Led) (s : Shared) (Q : Value → Shared → Prop), FSt c s.heap m fz ex fr → (∀ q ∈ Z, q ∈ fz) → Kont c m fz ex r fr' s Q → wpAny (model c.prog c.w) c.A (eval e' c.env) Q NoE s
noncomputable def VOk (c : Cx) (Z : Led) (e' : Expr) (fr : Frame) (v : V) (fr' : Frame) : Prop :=
  ∀ (m : Str → Option Value) (fz ex : Led) (s : Shared) (Q : Value → Shared → Prop), FSt c s.heap m fz ex fr → (∀ q ∈ Z, q ∈ fz) → KontV c m fz ex v fr' s Q → wpAny (model c.prog c.w) c.A (eval e' c.env) Q NoE s
theorem EOk.v {c : Cx} {Z : Led} {e' : Expr} {fr fr' : Frame} {r : R} (h : EOk c Z e' fr r fr') : VOk c Z e' fr r.v fr' := fun m fz ex s Q S hz k => h m fz ex s Q S hz k.toK
theorem EOk.ofV {c : Cx} {Z : Led} {e' : Expr} {fr fr' : Frame} {v : V} (h : VOk c Z e' fr v fr') : EOk c Z e' fr (.val v) fr' := fun m fz ex s Q S hz k => h m fz ex s Q S hz k

noncomputable def TOk (c : Cx) (Z : Led) (e' : Expr) (fr : Frame) (b : Bool) (fr' : Frame) : Prop :=
  ∀ (m : Str → Option Value) (fz ex : Led) (s : Shared) (Q : Bool → Shared → Prop), FSt c s.heap m fz ex fr → (∀ q ∈ Z, q ∈ fz) →
    (∀ fz' h' tk', (∀ p ∈ fz, p ∈ fz') → FSt c h' m fz' ex fr' → Q b { s with heap := h', toks := tk' }) → wpAny (model c.prog c.w) c.A (isTrue e' c.env (eval e' c.env)) Q NoE s
noncomputable def LOk (c : Cx) (Z : Led) (es' : List Expr) (fr : Frame) (vs : List V) (fr' : Frame) : Prop :=
  ∀ (m : Str → Option Value) (fz ex : Led) (s : Shared) (Q : List Value → Shared → Prop) (pos : Pos), FSt c s.heap m fz ex fr → (∀ q ∈ Z, q ∈ fz) →
    (∀ xs fz' h' tk', (∀ p ∈ fz, p ∈ fz') → FSt c h' m fz' ex fr' → Vals c.fa fz' vs xs → Q xs { s with heap := h', toks := tk' }) → wpAny (model c.prog c.w) c.A (spliced (backTo pos (starEach es' c.env))) Q NoE s

section
variable {c : Cx} {d : Nat} {Z : Led} {m : Str → Option Value} {fz ex : Led} {fr fr' fr1 fr2 : Frame} {s : Shared} {x : Str} {i : Nat}

theorem load_name {Q : Value → Shared → Prop} {E : Value → Shared → Prop} {vv : Value} {pos : Pos} (ok : CxOk c d) (S : FSt c s.heap m fz ex fr) (l : Loads c.cs c.cl fz m x vv) (hn : okName x = true) (k : Q vv s) :
    wpAny (model c.prog c.w) c.A (eval (.Name x pos) c.env) Q E s := by
  simp only [okName, Bool.and_eq_true, Bool.not_eq_true'] at hn
  rcases l with ⟨hl, hv⟩ | ⟨hl | hl, a, o, hc, hm, hd⟩
  · exact wpAny_Name (wpAny_loadName_local (env := c.env) ok.kind hl S.F.ns hv k) hn.1
  · exact wpAny_Name (wpAny_loadName_free (env := c.env) ok.kind hl hc ⟨o, S.ofFz hm, hd⟩ k hn.2) hn.1
  · exact wpAny_Name (wpAny_loadName_cell (env := c.env) ok.kind hl hc ⟨o, S.ofFz hm, hd⟩ k) hn.1

theorem Loads.inj {h : Heap} {fz' : Led} {v v' : Value} (S : FSt c h m fz' ex fr) (hs : ∀ p ∈ fz, p ∈ fz') (l : Loads c.cs c.cl fz m x v) (l' : Loads c.cs c.cl fz' m x v') : v = v' := by
  rcases l with ⟨h1, h2⟩ | ⟨h1, a, o, h2, h3, h4⟩ <;> rcases l' with ⟨k1, k2⟩ | ⟨k1, b, p, k2, k3, k4⟩
  · rw [h2] at k2; exact Option.some.inj k2
  · rw [h1] at k1; rcases k1 with k1 | k1 <;> cases k1
  · rw [k1] at h1; rcases h1 with h1 | h1 <;> cases h1
  · rw [h2] at k2; cases k2
    have e1 := S.ofFz (hs _ h3)
    have e2 := S.ofFz k3
    rw [e1] at e2; cases e2
    rw [h4] at k4; cases k4; rfl

theorem names_inj (ok : CxOk c d) {j : Nat} {y : Str} (hx : c.names[i]? = some x) (hy : c.names[j]? = some y) (h : i ≠ j) : x ≠ y := by
  obtain ⟨h1, e1⟩ := List.getElem?_eq_some_iff.mp hx
  obtain ⟨h2, e2⟩ := List.getElem?_eq_some_iff.mp hy
  rw [← e1, ← e2]
  rcases Nat.lt_or_gt_of_ne h with q | q
  · exact List.pairwise_iff_getElem.mp ok.nod i j h1 h2 q
  · exact Ne.symm (List.pairwise_iff_getElem.mp ok.nod j i h2 h1 q)

theorem slot_list {h : Heap} {sl : Slot} {vs : List V} (S : FSt c h m fz ex fr) (hx : c.names[i]? = some x) (e : fr[i]? = some sl) (hl : listS sl = some vs) :
    ∃ a its n, Loads c.cs c.cl fz m x (.ref a) ∧ h.get? a = some (listOf (its : List Value).toArray n) ∧ Vals c.fa fz vs its := by
  obtain ⟨y, hy, O⟩ := S.sl i sl e
  rw [hx] at hy; cases hy
  cases sl with
  | unset => cases hl
  | val v =>
    cases v <;> simp only [listS] at hl <;> cases hl
    obtain ⟨vv, l, hv⟩ := O
    cases hv with | list hm hv => exact ⟨_, _, _, l, S.ofFz hm, hv⟩
  | own ws =>
    simp only [listS] at hl; cases hl
    obtain ⟨hk, a, ha, O⟩ := O
    obtain ⟨its, n, eg, hv⟩ := O.get
    exact ⟨a, its, n, .inl ⟨hk, ha⟩, eg, hv⟩
  | io ws =>
    simp only [listS] at hl; cases hl
    obtain ⟨hk, a, ha, O⟩ := O
    obtain ⟨its, n, eg, hv⟩ := O.get
    exact ⟨a, its, n, .inl ⟨hk, ha⟩, eg, hv⟩
theorem slot_items {h : Heap} {sl : Slot} {vs : List V} (S : FSt c h m fz ex fr) (hx : c.names[i]? = some x) (e : fr[i]? = some sl) (hl : items sl = some vs) :
    ∃ a its n, Loads c.cs c.cl fz m x (.ref a) ∧ (h.get? a = some (listOf (its : List Value).toArray n) ∨ h.get? a = some (tupOf (its : List Value).toArray n)) ∧ Vals c.fa fz vs its := by
  cases hls : listS sl with
  | some ws =>
    obtain ⟨a, its, n, l, g, hv⟩ := slot_list S hx e hls
    have : ws = vs := by
      cases sl with
      | unset => cases hls
      | val v => cases v <;> simp [listS, items] at hls hl <;> exact hls.symm.trans hl
      | own _ => simp [listS, items] at hls hl; exact hls.symm.trans hl
      | io _ => simp [listS, items] at hls hl; exact hls.symm.trans hl
    subst this
    exact ⟨a, its, n, l, .inl g, hv⟩
  | none =>
    obtain ⟨y, hy, O⟩ := S.sl i sl e
    rw [hx] at hy; cases hy
    cases sl with
    | unset => cases hl
    | val v =>
      cases v <;> simp [listS, items] at hls hl
      subst hl
      obtain ⟨vv, l, hv⟩ := O
      cases hv with | tup hm hv => exact ⟨_, _, _, l, .inr (S.ofFz hm), hv⟩
    | own _ => simp [listS] at hls
    | io _ => simp [listS] at hls

theorem item_sound {Q : Value → Shared → Prop} {E : Value → Shared → Prop} {a : Addr} {its : List Value} {n : Nat} {vs : List V} {k : Int} {t : Tok} {v : V} {value slice : Expr}
    (g : s.heap.get? a = some (listOf its.toArray n) ∨ s.heap.get? a = some (tupOf its.toArray n)) (hv : Vals c.fa fz vs its) (hi : item vs k = some v)
    (hs : subscripted slice false (.ref a) (.int k t) = operate [.ref a, .int k t] (getItem (.ref a) (.int k t))) (kk : ∀ vv, Val c.fa fz v vv → Q vv s) :
    wpAny (model c.prog c.w) c.A (subscriptTail value slice (.ref a) (.int k t)) Q E s := by
  have len := hv.length
  unfold item at hi
  split at hi
  · rename_i hb
    unfold lim at hb
    split at hi
    · rename_i h0
      obtain ⟨y, hy, hy'⟩ := hv.get hi
      rcases g with g | g
      · have hl : s.heap.IsList a its.toArray := ⟨_, g, rfl, n, rfl⟩
        exact tail_any hl.typeIs slot_list_getitem.lookup (wpAny_getItem_list hl h0 (by omega) (by simpa using hy) (kk _ hy')) hs
      · have ht : IsTup s.heap a its.toArray := ⟨_, g, rfl, n, rfl⟩
        have hlt : k.toNat < its.length := (List.getElem?_eq_some_iff.mp hy).1
        refine tail_any ht.typeIs slot_tuple_getitem.lookup (getItem_tuple (j := k.toNat) ht (by with_reducible exact zle_tr (by assumption) (by decide)) (by omega) ?_ (by simpa using hy) (kk _ hy')) hs
        have h1 : ¬ k < 0 := by with_reducible exact Int.not_lt.mpr (by assumption)
        simp only [seqIndex?, List.size_toArray, h1, if_false]
        rw [if_pos (by simp; omega)]
    · rename_i h0
      split at hi
      · rename_i h1
        obtain ⟨y, hy, hy'⟩ := hv.get hi
        rw [← len] at hy h1
        rcases g with g | g
        · have hl : s.heap.IsList a its.toArray := ⟨_, g, rfl, n, rfl⟩
          refine tail_any hl.typeIs slot_list_getitem.lookup (wpAny_getItem_list_neg (x := y) hl (by with_reducible exact Int.not_le.mp (by assumption)) (by simp; omega) (by omega) ?_ (kk _ hy')) hs
          simp only [List.size_toArray, List.getElem?_toArray]
          rw [Int.add_comm]; exact hy
        · have ht : IsTup s.heap a its.toArray := ⟨_, g, rfl, n, rfl⟩
          refine tail_any ht.typeIs slot_tuple_getitem.lookup (getItem_tuple (j := ((its.length : Int) + k).toNat) ht (by omega) (by omega) ?_ (by simpa using hy) (kk _ hy')) hs
          have hlt := (List.getElem?_eq_some_iff.mp hy).1
          have h1 : k < 0 := by with_reducible exact Int.not_le.mp (by assumption)
          simp only [seqIndex?, List.size_toArray, h1, if_true]
          rw [if_pos (by simp; omega), Int.add_comm]
      · cases hi
  · cases hi

theorem FSt.freezeSlot {h : Heap} {vs : List V} {a : Addr} (ok : CxOk c d) (S : FSt c h m fz ex fr) (hx : c.names[i]? = some x) (e : fr[i]? = some (.own vs)) (ha : m x = some (.ref a)) :
    ∃ o, FSt c h m ((a, o) :: fz) ex (fr.set i (.val (.list vs))) ∧ Val c.fa ((a, o) :: fz) (.list vs) (.ref a) := by
  obtain ⟨ws, hw, O⟩ := S.ownAt e rfl hx ha
  have : ws = vs := by rcases hw with hw | hw <;> cases hw; rfl
  subst this
  obtain ⟨its, n, g, hv⟩ := O.get
  have hi : i < fr.length := (List.getElem?_eq_some_iff.mp e).1
  have hk : c.cs.names.lookup x = some .local := by
    obtain ⟨y, hy, O'⟩ := S.sl i _ e
    rw [hx] at hy; cases hy
    exact O'.1
  have V1 : Val c.fa ((a, listOf its.toArray n) :: fz) (.list ws) (.ref a) := .list (.head _) (hv.mono fun _ => .tail _)
  refine ⟨_, ⟨S.F, fun p hp => ?_, fun q hq r hr => ?_, fun j t et => ?_, fun j k t u y z b b' hjk et eu ht hu hy hz hb hb' => ?_⟩, V1⟩
  · rcases List.mem_cons.mp hp with rfl | hp
    · exact ⟨g, O.ne, O.new⟩
    · exact S.N p hp
  · rcases List.mem_cons.mp hq with rfl | hq
    · exact Ne.symm (O.offE r hr)
    · exact S.dis q hq r hr
  · by_cases hj : i = j
    · subst hj
      rw [List.getElem?_set_self hi] at et
      cases et
      exact ⟨x, hx, _, .inl ⟨hk, ha⟩, V1⟩
    · rw [List.getElem?_set_ne hj] at et
      obtain ⟨y, hy, y'⟩ := S.sl j t et
      refine ⟨y, hy, ?_⟩
      cases t with
      | unset => trivial
      | val v => obtain ⟨vv, l, v'⟩ := y'; exact ⟨vv, l.mono fun _ => .tail _, v'.mono fun _ => .tail _⟩
      | own us => obtain ⟨k, b, e', O'⟩ := y'; exact ⟨k, b, e', O'.addF (S.apart i j _ _ x y a b hj e et rfl rfl hx hy ha e')⟩
      | io us => obtain ⟨k, b, e', O'⟩ := y'; exact ⟨k, b, e', O'.addF (S.apart i j _ _ x y a b hj e et rfl rfl hx hy ha e')⟩
  · have off : ∀ {j : Nat} {t : Slot}, (fr.set i (.val (.list ws)))[j]? = some t → t.owned = true → fr[j]? = some t := fun {j t} et ht => by
      by_cases hj : i = j
      · subst hj; rw [List.getElem?_set_self hi] at et; cases et; cases ht
      · rwa [List.getElem?_set_ne hj] at et
    exact S.apart j k t u y z b b' hjk (off et ht) (off eu hu) ht hu hy hz hb hb'
end
end Mine
end PSnd2

section PSnd3
set_option maxRecDepth 100000
open PySem PySem.W PySem.Spec PySem.Calls PyProof.Rows
namespace Mine

structure CallSound (prog : Program) (w : World) (K : Frag) (p : Program) (loose : List Str) (mean : ExcName → Option Value) (mg mb : Str → Option Value) (fa : Nat → Addr) (Z : Led) (C : CallF) (d : Nat) : Prop where
  fn : ∀ g io args r, C g io args = some r → ∃ k, g = .fn k ∧ ∀ (h : Heap) (fz : Led), K.In h → (∀ q ∈ fz, h.get? q.1 = some q.2) → (∀ q ∈ Z, q ∈ fz) → FnAt (fa k) h
  run : ∀ (k : Nat) (io : Option (List V)) (args : List V) (r : V) (io' : List V), C (.fn k) io args = some (r, io') →
    ∀ (env : Env) (L : Addr) (outer : List Env) (A A₀ : Around) (base h₀ : Heap) (m : Str → Option Value) (fz ex : Led) (s : Shared) (ws : List Value) (ia : Addr) (Q : Value → Shared → Prop),
      env.frame = some L → env.scope.kind = .function → A.handled = none → A.frames = some (env :: outer) → A.depth + d < recursionLimit → A.units + 8 * d + 100 < cLine →
      Below A₀ base outer h₀ → K.In h₀ → Top p loose mean mg mb h₀ → Fr h₀ L s.heap m → News h₀ L s.heap (fz ++ ex) → (∀ q ∈ fz, ∀ r ∈ ex, q.1 ≠ r.1) → (∀ q ∈ Z, q ∈ fz) →
      Vals fa fz args ws → (∀ vs, io = some vs → OwnAt fa h₀ L s.heap fz ex ia vs) →
      (∀ rv fz' h' tk', (∀ q ∈ fz, q ∈ fz') → Fr h₀ L h' m → News h₀ L h' (fz' ++ ex) → (∀ q ∈ fz', ∀ r ∈ ex, q.1 ≠ r.1) → Val fa fz' r rv → (io.isSome = true → OwnAt fa h₀ L h' fz' ex ia io') → Q rv { s with heap := h', toks := tk' }) →
      wpAny (model prog w) A (call (.ref (fa k)) (if io.isSome then .ref ia :: ws else ws)) Q NoE s

section
variable {c : Cx} {d : Nat} {Z : Led} {m : Str → Option Value} {fz fz' ex : Led} {fr fr' fr1 fr2 : Frame} {s : Shared} {x : Str} {i : Nat}

theorem Kont.up {r : R} {Q : Value → Shared → Prop} {h : Heap} {t : Nat} (k : Kont c m fz ex r fr s Q) (hs : ∀ p ∈ fz, p ∈ fz') : Kont c m fz' ex r fr { s with heap := h, toks := t } Q :=
  fun vv fz2 h2 t2 h3 S hr => k vv fz2 h2 t2 (fun p hp => h3 p (hs p hp)) S hr

theorem load_builtin {Q : Value → Shared → Prop} {E : Value → Shared → Prop} {v : Value} {pos : Pos} (ok : CxOk c d) (S : FSt c s.heap m fz ex fr) (hb : BName c.K c.cs x) (hv : bootBuiltins x = some v) (hn : x ≠ "__name__") (hd : (x == ("__debug__" : Str)) = false) (k : Q v s) :
    wpAny (model c.prog c.w) c.A (eval (.Name x pos) c.env) Q E s :=
  Name_function_global (env := c.env) ok.kind hb.2 (loadGlobal_builtin (env := c.env) (ok.T.g.keeps S.F.keep) (mg_none_of ok.X ok.T.g hb.1) (ok.T.b.keeps S.F.keep) ((ok.T.builtins x hn).trans hv) k) hd

theorem ok_var {pos : Pos} {r : R} {C : CallF} (ok : CxOk c d) (hx : c.names[i]? = some x) (hn : okName x = true) (h : evalE C (.var i) fr = some (r, fr')) : EOk c Z (.Name x pos) fr r fr' := by
  intro m fz ex s Q S hz k
  simp only [ee1, ee2, ee3, ee4, ee5, ee6, ee7, ee8, ee9, ee10, ee11, ee12, ee13, ee14, ee15, ee16, ee17, ee18, ee19] at h
  split at h
  · rename_i v e
    cases h
    obtain ⟨y, hy, O⟩ := S.sl i _ e
    rw [hx] at hy; cases hy
    obtain ⟨vv, l, hv⟩ := O
    exact load_name ok S l hn (k vv fz s.heap _ (fun _ e => e) S hv)
  · rename_i vs e
    cases h
    obtain ⟨y, hy, O⟩ := S.sl i _ e
    rw [hx] at hy; cases hy
    obtain ⟨hk, a, ha, O⟩ := O
    obtain ⟨o, S', V'⟩ := S.freezeSlot ok hx e ha
    exact load_name ok S (.inl ⟨hk, ha⟩) hn (k _ _ s.heap _ (fun _ => .tail _) S' V')
  · cases h

theorem ok_gl {k : Nat} {pos : Pos} (ok : CxOk c d) (hk : nsIn c.K mainGlobals x = some (some (.ref (c.fa k)))) (hl : c.cs.names.lookup x = some .globalImplicit) (hn : okName x = true) : EOk c Z (.Name x pos) fr (.val (.fn k)) fr := by
  intro m fz ex s Q S hz kk
  simp only [okName, Bool.and_eq_true, Bool.not_eq_true'] at hn
  exact nameG_K (env := c.env) S.F ok.X (topRead_of ok.T) hk (kk _ fz s.heap _ (fun _ e => e) S (.fn k)) rfl ok.kind hl hn.1

theorem ok_int {n : Int} {k : Nat} {pos : Pos} : EOk c Z (.Constant (.int n) k pos) fr (.val (.int n)) fr := fun m fz ex s Q S hz kk =>
  wpAny_Constant_int (kk _ fz s.heap _ (fun _ e => e) S (.int n _))
theorem ok_none {k : Nat} {pos : Pos} : EOk c Z (.Constant .none k pos) fr (.val .none) fr := fun m fz ex s Q S hz kk =>
  wpAny_Constant_none (kk _ fz s.heap _ (fun _ e => e) S .none)

theorem ok_bin {op : BOp} {l' r' : Expr} {pos : Pos} {a b : V} {r : R} (hl : VOk c Z l' fr a fr1) (hr : VOk c Z r' fr1 b fr2) (hb : bin op a b = some r) : EOk c Z (.BinOp l' op.op r' pos) fr r fr2 := by
  intro m fz ex s Q S hz k
  refine wpAny_BinOp (hl m fz ex s _ S hz fun av fz1 h1 t1 s1 S1 va => hr m fz1 ex _ _ S1 (fun q hq => s1 _ (hz q hq)) fun bv fz2 h2 t2 s2 S2 vb => ?_)
  exact bin_sound S2 hb (va.mono s2) vb (k.up fun p hp => s2 p (s1 p hp))

theorem ok_neg {e' : Expr} {pos : Pos} {n : Int} (h : VOk c Z e' fr (.int n) fr1) : EOk c Z (.UnaryOp .USub e' pos) fr (.val (.int (-n))) fr1 := by
  intro m fz ex s Q S hz k
  refine wpAny_UnaryOp (h m fz ex s _ S hz fun av fz1 h1 t1 s1 S1 va => ?_)
  cases va
  exact P.neg_int (k _ fz1 h1 _ s1 S1 (.int (-n) _))

theorem ok_ite {b' t' f' : Expr} {pos : Pos} {b : Bool} {v : V} (hb : TOk c Z b' fr b fr1) (h : VOk c Z (if b then t' else f') fr1 v fr2) : EOk c Z (.IfExp b' t' f' pos) fr (.val v) fr2 := by
  intro m fz ex s Q S hz k
  refine wpAny_IfExp (hb m fz ex s _ S hz fun fz1 h1 t1 s1 S1 => ?_)
  cases b
  · exact h m fz1 ex _ _ S1 (fun q hq => s1 _ (hz q hq)) fun vv fz2 h2 t2 s2 S2 v2 => k vv fz2 h2 t2 (fun p hp => s2 p (s1 p hp)) S2 v2
  · exact h m fz1 ex _ _ S1 (fun q hq => s1 _ (hz q hq)) fun vv fz2 h2 t2 s2 S2 v2 => k vv fz2 h2 t2 (fun p hp => s2 p (s1 p hp)) S2 v2

theorem ok_idxv {ix' : Expr} {p pos : Pos} {n : Int} {vs vs0 : List V} {v : V} {sl sl0 : Slot} (ok : CxOk c d) (hx : c.names[i]? = some x) (hn : okName x = true) (hix : VOk c Z ix' fr (.int n) fr1)
    (hsub : ∀ o i, subscripted ix' false o i = operate [o, i] (getItem o i)) (e0 : fr[i]? = some sl0) (l0 : items sl0 = some vs0) (e1 : fr1[i]? = some sl) (l1 : items sl = some vs) (hi : item vs n = some v) :
    EOk c Z (.Subscript (.Name x p) ix' pos) fr (.val v) fr1 := by
  intro m fz ex s Q S hz k
  obtain ⟨a, its, nn, l, g, hv⟩ := slot_items S hx e0 l0
  refine Subscript_ (load_name ok S l hn (hix m fz ex s _ S hz fun iv fz1 h1 t1 s1 S1 v1 => ?_))
  cases v1
  obtain ⟨a', its', nn', l', g', hv'⟩ := slot_items S1 hx e1 l1
  cases Loads.inj S1 s1 l l'
  exact item_sound (c := c) g' hv' hi (hsub _ _) fun vv hvv => k vv fz1 h1 _ s1 S1 hvv

theorem ok_idxe {e' ix' : Expr} {pos : Pos} {n : Int} {b : V} {vs : List V} {v : V} (he : VOk c Z e' fr b fr1) (hix : VOk c Z ix' fr1 (.int n) fr2)
    (hsub : ∀ o i, subscripted ix' false o i = operate [o, i] (getItem o i)) (l1 : itemsV b = some vs) (hi : item vs n = some v) :
    EOk c Z (.Subscript e' ix' pos) fr (.val v) fr2 := by
  intro m fz ex s Q S hz k
  refine Subscript_ (he m fz ex s _ S hz fun bv fz1 h1 t1 s1 S1 v1 => hix m fz1 ex _ _ S1 (fun q hq => s1 _ (hz q hq)) fun iv fz2 h2 t2 s2 S2 v2 => ?_)
  cases v2
  have v1' := v1.mono s2
  cases b <;> simp only [itemsV] at l1 <;> cases l1
  · refine Val.listE v1' fun _ _ _ hm hv => ?_
    exact item_sound (c := c) (.inl (S2.ofFz hm)) hv hi (hsub _ _) fun vv hvv => k vv fz2 h2 _ (fun p hp => s2 p (s1 p hp)) S2 hvv
  · refine Val.tupE v1' fun _ _ _ hm hv => ?_
    exact item_sound (c := c) (.inr (S2.ofFz hm)) hv hi (hsub _ _) fun vv hvv => k vv fz2 h2 _ (fun p hp => s2 p (s1 p hp)) S2 hvv

noncomputable def POk (c : Cx) (Z : Led) (e' : Option Expr) (fr : Frame) (v : V) (fr' : Frame) : Prop :=
  ∀ (m : Str → Option Value) (fz ex : Led) (s : Shared) (Q : Value → Shared → Prop), FSt c s.heap m fz ex fr → (∀ q ∈ Z, q ∈ fz) → KontV c m fz ex v fr' s Q → wpAny (model c.prog c.w) c.A (evalPart e' c.env) Q NoE s
theorem pok_none : POk c Z none fr .none fr := fun m fz ex s Q S hz k => wpAny_pure (k _ fz s.heap _ (fun _ e => e) S .none)
theorem pok_some {e' : Expr} {v : V} (h : VOk c Z e' fr v fr1) : POk c Z (some e') fr v fr1 := h

theorem part_is {v : V} {vv : Value} {o : Option Int} (h : part v = some o) (hv : Val c.fa fz v vv) : IsPart vv o := by
  cases v <;> simp only [part] at h <;> cases h
  · cases hv; exact .none
  · cases hv; exact .int _ _

theorem ok_slc {lo' hi' : Option Expr} {p q pos : Pos} {lv hv : V} {vs vs0 ws : List V} {sl sl0 : Slot} (ok : CxOk c d) (hx : c.names[i]? = some x) (hn : okName x = true) (hl : POk c Z lo' fr lv fr1) (hh : POk c Z hi' fr1 hv fr2)
    (e0 : fr[i]? = some sl0) (l0 : listS sl0 = some vs0) (e1 : fr2[i]? = some sl) (l1 : listS sl = some vs) (hle : vs.length ≤ lenLim) (hc : cut vs lv hv = some ws) :
    EOk c Z (.Subscript (.Name x p) (.Slice lo' hi' none q) pos) fr (.fresh ws) fr2 := by
  intro m fz ex s Q S hz k
  obtain ⟨a, its, nn, l, g, hv0⟩ := slot_list S hx e0 l0
  refine Subscript_ (load_name ok S l hn (wpAny_Slice (hl m fz ex s _ S hz fun bv fz1 h1 t1 s1 S1 v1 => hh m fz1 ex _ _ S1 (fun q hq => s1 _ (hz q hq)) fun uv fz2 h2 t2 s2 S2 v2 => ?_)))
  refine wpAny_pure ?_
  obtain ⟨a', its', nn', l', g', hv'⟩ := slot_list S2 hx e1 l1
  cases Loads.inj S2 (fun p hp => s2 p (s1 p hp)) l l'
  unfold cut at hc
  split at hc
  · rename_i ol oh hol hoh
    cases hc
    have len := hv'.length
    refine slice_list (s := { s with heap := h2, toks := t2 }) S2.F S2.allN ⟨_, g', rfl, nn', rfl⟩ (part_is hol (v1.mono s2)) (part_is hoh v2) (fun h' F' N' => ?_) rfl (fun _ => rfl) (by simp; unfold lenLim at hle; unfold sizeLine; omega)
    have S3 := S2.back F' fun p hp => N' p (.tail _ hp)
    refine k _ fz2 h' _ (fun p hp => s2 p (s1 p hp)) S3 (S2.newList (Nat.le_succ _) (its := cutI its' ol oh) (n := 0) ?_ ?_)
    · have e := (N' _ (.head _)).1
      rw [slicePick_plain] at e
      simpa [cutI] using e
    · simp only [cutI, ← len]
      exact (hv'.drop _).take _
  · cases hc
end
end Mine
end PSnd3

section PSnd4
set_option maxRecDepth 100000
open PySem PySem.W PySem.Spec PySem.Calls PyProof.Rows
namespace Mine
section
variable {c : Cx} {d : Nat} {Z : Led} {m : Str → Option Value} {fz fz' ex : Led} {fr fr' fr1 fr2 : Frame} {s : Shared} {x : Str} {i : Nat}

theorem lok_nil : LOk c Z [] fr [] fr := fun m fz ex s Q pos S hz k => spliced_none (k [] fz s.heap _ (fun _ e => e) S .nil)
theorem lok_cons {e' : Expr} {es' : List Expr} {v : V} {vs : List V} (he : VOk c Z e' fr v fr1) (hst : starEach (e' :: es') c.env = (false, eval e' c.env) :: starEach es' c.env) (hr : LOk c Z es' fr1 vs fr2) : LOk c Z (e' :: es') fr (v :: vs) fr2 := by
  intro m fz ex s Q pos S hz k
  exact spliced_more (he m fz ex s _ S hz fun vv fz1 h1 t1 s1 S1 v1 => hr m fz1 ex _ _ pos S1 (fun q hq => s1 _ (hz q hq)) fun xs fz2 h2 t2 s2 S2 v2 => k _ fz2 h2 t2 (fun p hp => s2 p (s1 p hp)) S2 (.cons (v1.mono s2) v2)) hst

theorem ok_list {es' : List Expr} {pos : Pos} {vs : List V} (h : LOk c Z es' fr vs fr1) (hle : vs.length ≤ lenLim) : EOk c Z (.List es' pos) fr (.fresh vs) fr1 := by
  intro m fz ex s Q S hz k
  refine wpAny_List (h m fz ex s _ pos S hz fun xs fz1 h1 t1 s1 S1 v1 => ⟨by have := v1.length; unfold lenLim at hle; unfold sizeLine; omega, ?_⟩)
  exact k _ fz1 _ _ s1 (S1.push _) (S1.freshList (n := 0) v1)
theorem ok_tup {es' : List Expr} {n : Nat} {pos : Pos} {vs : List V} (h : LOk c Z es' fr vs fr1) (hle : vs.length ≤ lenLim) : EOk c Z (.Tuple es' n pos) fr (.val (.tup vs)) fr1 := by
  intro m fz ex s Q S hz k
  refine wpAny_Tuple (h m fz ex s _ pos S hz fun xs fz1 h1 t1 s1 S1 v1 => ⟨by have := v1.length; unfold lenLim at hle; unfold sizeLine; omega, ?_⟩)
  obtain ⟨S2, v2⟩ := S1.freshTup (n := 0) v1
  exact k _ _ _ _ (fun p hp => .tail _ (s1 p hp)) S2 v2

theorem call_shape {M : Model} {A : Around} {E Q} {p pos : Pos} {args : List Expr} {env : Env} (h : wpAny M A (eval (.Name x p) env) (fun fv s₁ => wpAny M A (callWith pos fv [] (backTo pos (starEach args env)) []) Q E s₁) E s) :
    wpAny M A (eval (.Call (.Name x p) args [] pos) env) Q E s := by
  show wpAny M A (do callWith pos (← eval (.Name x p) env) [] (backTo pos (starEach args env)) []) Q E s
  exact wpAny_bind h

theorem FSt.exN {h : Heap} (S : FSt c h m fz ex fr) (skip : Option Nat) : News c.h₀ c.L h (fz ++ (ownEnts c h m fr skip ++ ex)) ∧ ∀ q ∈ fz, ∀ r ∈ ownEnts c h m fr skip ++ ex, q.1 ≠ r.1 := by
  obtain ⟨h1, h2⟩ := S.ownNews skip
  refine ⟨fun p hp => ?_, fun q hq r hr => ?_⟩
  · rcases List.mem_append.mp hp with hp | hp
    · exact S.N p (List.mem_append_left _ hp)
    · rcases List.mem_append.mp hp with hp | hp
      · exact h1 p hp
      · exact S.N p (List.mem_append_right _ hp)
  · rcases List.mem_append.mp hr with hr | hr
    · exact (h2 r hr).1 q hq
    · exact S.dis q hq r hr

theorem ok_call {C : CallF} {p pos : Pos} {e' : Expr} {es' : List Expr} {g : V} {vs : List V} {r : V} {o : List V} (ok : CxOk c d) (hC : CallSound c.prog c.w c.K c.p c.loose c.mean c.mg c.mb c.fa Z C d)
    (hf : EOk c Z (.Name x p) fr (.val g) fr1) (ha : LOk c Z (e' :: es') fr1 vs fr2) (hst : starEach (e' :: es') c.env = (false, eval e' c.env) :: starEach es' c.env) (hpl : (backTo pos (starEach es' c.env)).any (·.1) = false)
    (hc : C g none vs = some (r, o)) : EOk c Z (.Call (.Name x p) (e' :: es') [] pos) fr (.val r) fr2 := by
  intro m fz ex s Q S hz k
  refine call_shape (hf m fz ex s _ S hz fun gv fz1 h1 t1 s1 S1 v1 => ?_)
  obtain ⟨kk, rfl, hfn⟩ := hC.fn _ _ _ _ hc
  cases v1
  have fnAt : ∀ {fz h}, (∀ q ∈ Z, q ∈ fz) → FSt c h m fz ex fr1 → FnAt (c.fa kk) h := fun hz S => hfn _ _ (ok.X.keeps S.F.keep) (fun q hq => S.ofFz hq) hz
  have fnAt2 : ∀ {fz h}, (∀ q ∈ Z, q ∈ fz) → FSt c h m fz ex fr2 → FnAt (c.fa kk) h := fun hz S => hfn _ _ (ok.X.keeps S.F.keep) (fun q hq => S.ofFz hq) hz
  have hz1 : ∀ q ∈ Z, q ∈ fz1 := fun q hq => s1 _ (hz q hq)
  refine callWith_F (fnAt hz1 S1) (ha m fz1 ex _ _ pos S1 hz1 fun xs fz2 h2 t2 s2 S2 v2 => ?_) hst hpl
  have hz2 : ∀ q ∈ Z, q ∈ fz2 := fun q hq => s2 _ (hz1 q hq)
  refine ⟨fnAt2 hz2 S2, ?_⟩
  obtain ⟨N2, D2⟩ := S2.exN none
  refine hC.run kk none vs r o hc c.env c.L c.outer c.A c.A₀ c.base c.h₀ m fz2 (ownEnts c h2 m fr2 none ++ ex) _ xs 0 Q rfl ok.kind ok.hh ok.fr ok.dep ok.un ok.B ok.X ok.T S2.F N2 D2 hz2 v2 (fun _ e => by cases e) ?_
  intro rv fz3 h3 t3 s3 F3 N3 D3 v3 _
  refine k rv fz3 h3 t3 (fun p hp => s3 p (s2 p (s1 p hp))) (S2.rebuild s3 F3 (fun p hp => N3 p ?_) (fun p hp => N3 p (by simp [hp])) (fun q hq r hr => D3 q hq r (by simp [hr])) fun q hq r hr => D3 q hq r (by simp [hr])) v3
  rcases List.mem_append.mp hp with hp | hp <;> simp [hp]

theorem FSt.afterIo {h h' : Heap} {sl sl' : Slot} {a : Addr} {ws : List V} (ok : CxOk c d) (S : FSt c h m fz ex fr) (hx : c.names[i]? = some x) (e : fr[i]? = some sl) (ho : sl.owned = true) (ha : m x = some (.ref a)) (hs : ∀ p ∈ fz, p ∈ fz')
    (hsl : sl' = .own ws ∨ sl' = .io ws) (F : Fr c.h₀ c.L h' m) (N : News c.h₀ c.L h' (fz' ++ (ownEnts c h m fr (some i) ++ ex))) (D : ∀ q ∈ fz', ∀ r ∈ ownEnts c h m fr (some i) ++ ex, q.1 ≠ r.1)
    (O : OwnAt c.fa c.h₀ c.L h' fz' ex a ws) : FSt c h' m fz' ex (fr.set i sl') := by
  have hi : i < fr.length := (List.getElem?_eq_some_iff.mp e).1
  have hk : c.cs.names.lookup x = some .local := by
    obtain ⟨y, hy, O'⟩ := S.sl i _ e
    rw [hx] at hy; cases hy
    cases sl with
    | unset => cases ho
    | val => cases ho
    | own _ => exact O'.1
    | io _ => exact O'.1
  have ho' : sl'.owned = true := by rcases hsl with rfl | rfl <;> rfl
  refine ⟨F, fun p hp => N p ?_, fun q hq r hr => D q hq r (by simp [hr]), fun j t et => ?_, fun j k t u y z b b' hjk et eu ht hu hy hz hb hb' => ?_⟩
  · rcases List.mem_append.mp hp with hp | hp <;> simp [hp]
  · by_cases hj : i = j
    · subst hj
      rw [List.getElem?_set_self hi] at et
      cases et
      refine ⟨x, hx, ?_⟩
      rcases hsl with rfl | rfl
      · exact ⟨hk, a, ha, O⟩
      · exact ⟨hk, a, ha, O⟩
    · rw [List.getElem?_set_ne hj] at et
      obtain ⟨y, hy, y'⟩ := S.sl j t et
      refine ⟨y, hy, ?_⟩
      have old : ∀ {us : List V} {b : Addr}, t.owned = true → m y = some (.ref b) → OwnAt c.fa c.h₀ c.L h fz ex b us → OwnAt c.fa c.h₀ c.L h' fz' ex b us := fun {us b} ht hb O' => by
        obtain ⟨its, n, eg, hv⟩ := O'.get
        have hm := ownEnts_mem (c := c) (h := h) (m := m) (fr := fr) (skip := some i) (by intro q; exact hj (Option.some.inj q)) et ht hy hb eg
        have hm' : (b, W.listOf its.toArray n) ∈ ownEnts c h m fr (some i) ++ ex := List.mem_append_left _ hm
        exact ⟨⟨its, n, (N _ (List.mem_append_right _ hm')).1, hv.mono hs⟩, O'.ne, O'.new, fun q hq => D q hq _ hm', O'.offE⟩
      cases t with
      | unset => trivial
      | val v => obtain ⟨vv, l, v'⟩ := y'; exact ⟨vv, l.mono hs, v'.mono hs⟩
      | own us => obtain ⟨k, b, e', O'⟩ := y'; exact ⟨k, b, e', old rfl e' O'⟩
      | io us => obtain ⟨k, b, e', O'⟩ := y'; exact ⟨k, b, e', old rfl e' O'⟩
  · have back : ∀ {j : Nat} {t : Slot}, (fr.set i sl')[j]? = some t → t.owned = true → ∃ t', fr[j]? = some t' ∧ t'.owned = true := fun {j t} et ht => by
      by_cases hj : i = j
      · subst hj; exact ⟨sl, e, ho⟩
      · rw [List.getElem?_set_ne hj] at et; exact ⟨t, et, ht⟩
    obtain ⟨t', et', ht'⟩ := back et ht
    obtain ⟨u', eu', hu'⟩ := back eu hu
    exact S.apart j k t' u' y z b b' hjk et' eu' ht' hu' hy hz hb hb'

theorem ok_callio {C : CallF} {y : Str} {p q pos : Pos} {es' : List Expr} {g : V} {vs ws ws' : List V} {r : V} {sl sl' : Slot} (ok : CxOk c d) (hC : CallSound c.prog c.w c.K c.p c.loose c.mean c.mg c.mb c.fa Z C d)
    (hf : EOk c Z (.Name x p) fr (.val g) fr1) (hy : c.names[i]? = some y) (hn : okName y = true) (ha : LOk c Z es' fr1 vs fr2) (hpl : (backTo pos (starEach es' c.env)).any (·.1) = false)
    (e1 : ∃ t, fr1[i]? = some t ∧ t.owned = true) (e2 : fr2[i]? = some sl) (hsl : (sl = .own ws ∧ sl' = .own ws') ∨ (sl = .io ws ∧ sl' = .io ws'))
    (hc : C g (some ws) vs = some (r, ws')) : EOk c Z (.Call (.Name x p) (.Name y q :: es') [] pos) fr (.val r) (fr2.set i sl') := by
  intro m fz ex s Q S hz k
  refine call_shape (hf m fz ex s _ S hz fun gv fz1 h1 t1 s1 S1 v1 => ?_)
  obtain ⟨kk, rfl, hfn⟩ := hC.fn _ _ _ _ hc
  cases v1
  have fnAt : ∀ {fz h fr}, (∀ q ∈ Z, q ∈ fz) → FSt c h m fz ex fr → FnAt (c.fa kk) h := fun hz S => hfn _ _ (ok.X.keeps S.F.keep) (fun q hq => S.ofFz hq) hz
  have hz1 : ∀ q ∈ Z, q ∈ fz1 := fun q hq => s1 _ (hz q hq)
  refine callWith_F (fnAt hz1 S1) ?_ rfl hpl
  obtain ⟨t, et, ht⟩ := e1
  obtain ⟨y', hy', O1⟩ := S1.sl i t et
  rw [hy] at hy'; cases hy'
  have : ∃ a, c.cs.names.lookup y = some .local ∧ m y = some (.ref a) := by
    cases t with
    | unset => cases ht
    | val => cases ht
    | own _ => obtain ⟨hk, a, ha, _⟩ := O1; exact ⟨a, hk, ha⟩
    | io _ => obtain ⟨hk, a, ha, _⟩ := O1; exact ⟨a, hk, ha⟩
  obtain ⟨a, hk, hma⟩ := this
  refine spliced_more (load_name ok S1 (.inl ⟨hk, hma⟩) hn (ha m fz1 ex _ _ pos S1 hz1 fun xs fz2 h2 t2 s2 S2 v2 => ?_)) rfl
  have hz2 : ∀ q ∈ Z, q ∈ fz2 := fun q hq => s2 _ (hz1 q hq)
  refine ⟨fnAt hz2 S2, ?_⟩
  have ho : sl.owned = true := by rcases hsl with ⟨rfl, _⟩ | ⟨rfl, _⟩ <;> rfl
  obtain ⟨us, hus, O2⟩ := S2.ownAt e2 ho hy hma
  have : us = ws := by rcases hsl with ⟨rfl, _⟩ | ⟨rfl, _⟩ <;> rcases hus with hus | hus <;> cases hus <;> rfl
  subst this
  obtain ⟨N2, D2⟩ := S2.exN (some i)
  have offI : ∀ r ∈ ownEnts c h2 m fr2 (some i) ++ ex, r.1 ≠ a := fun r hr => by
    rcases List.mem_append.mp hr with hr | hr
    · obtain ⟨j, u, z, hj, eu, hu, hz', hm', _⟩ := mem_ownEnts hr
      exact S2.apart j i u sl z y r.1 a (fun q => hj (by rw [q])) eu e2 hu ho hz' hy hm' hma
    · exact O2.offE r hr
  refine hC.run kk (some us) vs r ws' hc c.env c.L c.outer c.A c.A₀ c.base c.h₀ m fz2 (ownEnts c h2 m fr2 (some i) ++ ex) _ xs a Q rfl ok.kind ok.hh ok.fr ok.dep ok.un ok.B ok.X ok.T S2.F N2 D2 hz2 v2 (fun ws e => by cases e; exact ⟨O2.get, O2.ne, O2.new, O2.offF, offI⟩) ?_
  intro rv fz3 h3 t3 s3 F3 N3 D3 v3 O3
  have O3' := O3 rfl
  refine k rv fz3 h3 t3 (fun p hp => s3 p (s2 p (s1 p hp))) (S2.afterIo ok hy e2 ho hma s3 (ws := ws') (by rcases hsl with ⟨_, rfl⟩ | ⟨_, rfl⟩ <;> simp) F3 N3 D3 ⟨O3'.get, O3'.ne, O3'.new, O3'.offF, fun r hr => O3'.offE r (by simp [hr])⟩) v3
end
end Mine
end PSnd4

section PSnd5
set_option maxRecDepth 100000
open PySem PySem.W PySem.Spec PySem.Calls PyProof.Rows
namespace Mine

theorem boot_len : bootBuiltins (Str.ofString "len") = some (.builtin "len") := by decide +kernel
theorem boot_max : bootBuiltins (Str.ofString "max") = some (.builtin "max") := by decide +kernel
theorem boot_min : bootBuiltins (Str.ofString "min") = some (.builtin "min") := by decide +kernel
theorem boot_range : bootBuiltins (Str.ofString "range") = some (.type "range") := by decide +kernel
theorem boot_enum : bootBuiltins (Str.ofString "enumerate") = some (.type "enumerate") := by decide +kernel

theorem keeps_mach {M : Model} {v : Value} (hv : keeperOf v = pure .machine) (h : Heap) (_ : True) : ∃ k, (k = Keeper.frame ∨ k = Keeper.machine ∨ k = Keeper.boundFrame) ∧ Looks M h (keeperOf v) k :=
  ⟨.machine, .inr (.inl rfl), Looks.of_pure hv⟩

section
variable {c : Cx} {d : Nat} {Z : Led} {m : Str → Option Value} {fz fz' ex : Led} {fr fr' fr1 fr2 fr3 : Frame} {s : Shared} {x : Str} {i : Nat}

theorem callWith_mach {M : Model} {A : Around} {E : Value → Shared → Prop} {Q : Value → Shared → Prop} {v : Value} {first : List Value} {pos : Pos} {e : Expr} {rest : List Expr} {env : Env} (hv : keeperOf v = pure .machine)
    (he : starEach (e :: rest) env = (false, eval e env) :: starEach rest env) (hpl : (backTo pos (starEach rest env)).any (·.1) = false)
    (h : wpAny M A (spliced (backTo pos (starEach (e :: rest) env))) (fun vs s₁ => wpAny M A (call v (first ++ vs)) Q E s₁) E s) : wpAny M A (callWith pos v first (backTo pos (starEach (e :: rest) env)) []) Q E s := by
  rw [he] at h ⊢
  exact callWith_of (P := fun _ => True) (by show ((false || (backTo pos (starEach rest env)).any (·.1)) || false) = false; rw [hpl]; rfl) (keeps_mach hv) (evalArgs_plain (wpAny_mono h (fun _ _ q => ⟨trivial, q⟩) fun _ _ e => e))
theorem callWith_mach0 {M : Model} {A : Around} {E : Value → Shared → Prop} {Q : Value → Shared → Prop} {v : Value} {first : List Value} {pos : Pos} {env : Env} (hv : keeperOf v = pure .machine)
    (h : wpAny M A (call v (first ++ [])) Q E s) : wpAny M A (callWith pos v first (backTo pos (starEach [] env)) []) Q E s :=
  callWith_of (P := fun _ => True) rfl (keeps_mach hv) (evalArgs_nil3 ⟨trivial, h⟩)

theorem ok_len {e' : Expr} {p pos : Pos} {vs : List V} (ok : CxOk c d) (hb : BName c.K c.cs (Str.ofString "len")) (hst : starEach [e'] c.env = (false, eval e' c.env) :: starEach [] c.env) (hle : vs.length ≤ lenLim)
    (h : ∀ (m : Str → Option Value) (fz ex : Led) (s : Shared) (Q : Value → Shared → Prop), FSt c s.heap m fz ex fr → (∀ q ∈ Z, q ∈ fz) →
      (∀ a its n fz' h' tk', (∀ p ∈ fz, p ∈ fz') → FSt c h' m fz' ex fr1 → h'.get? a = some (listOf (its : List Value).toArray n) → its.length = vs.length → Q (.ref a) { s with heap := h', toks := tk' }) → wpAny (model c.prog c.w) c.A (eval e' c.env) Q NoE s) :
    EOk c Z (.Call (.Name (Str.ofString "len") p) [e'] [] pos) fr (.val (.int vs.length)) fr1 := by
  intro m fz ex s Q S hz k
  refine call_shape (load_builtin ok S hb boot_len (by decide) (by decide) (callWith_mach rfl hst rfl (spliced_more (h m fz ex s _ S hz fun a its n fz1 h1 t1 s1 S1 g hl => spliced_none ?_) hst)))
  have hI : h1.IsList a its.toArray := ⟨_, g, rfl, n, rfl⟩
  refine call_len_list (s := { s with heap := h1, toks := t1 }) hI (by simp; unfold lenLim at hle; omega) ?_
  have := k (.int (its.toArray.size : Nat) (t1 + 1)) fz1 h1 (t1 + 1 + 1) s1 S1 (by simp only [List.size_toArray, hl]; exact .int _ _)
  exact this

theorem ok_lenv {p q pos : Pos} {vs : List V} {sl : Slot} (ok : CxOk c d) (hb : BName c.K c.cs (Str.ofString "len")) (hx : c.names[i]? = some x) (hn : okName x = true) (e : fr[i]? = some sl) (hl : listS sl = some vs) (hle : vs.length ≤ lenLim) :
    EOk c Z (.Call (.Name (Str.ofString "len") p) [.Name x q] [] pos) fr (.val (.int vs.length)) fr :=
  ok_len ok hb rfl hle fun m fz ex s Q S hz k => by
    obtain ⟨a, its, n, l, g, hv⟩ := slot_list S hx e hl
    exact load_name ok S l hn (k a its n fz s.heap _ (fun _ e => e) S g hv.length)
theorem ok_lene {e' : Expr} {p pos : Pos} {vs : List V} (ok : CxOk c d) (hb : BName c.K c.cs (Str.ofString "len")) (hst : starEach [e'] c.env = (false, eval e' c.env) :: starEach [] c.env) (he : VOk c Z e' fr (.list vs) fr1) (hle : vs.length ≤ lenLim) :
    EOk c Z (.Call (.Name (Str.ofString "len") p) [e'] [] pos) fr (.val (.int vs.length)) fr1 :=
  ok_len ok hb hst hle fun m fz ex s Q S hz k => he m fz ex s _ S hz fun vv fz1 h1 t1 s1 S1 v1 => by
    cases v1 with | list hm hv => exact k _ _ _ fz1 h1 t1 s1 S1 (S1.ofFz hm) hv.length

theorem ok_max {a' b' : Expr} {p pos : Pos} {a b : Int} (ok : CxOk c d) (hb : BName c.K c.cs (Str.ofString "max")) (hst : ∀ rest, starEach (a' :: rest) c.env = (false, eval a' c.env) :: starEach rest c.env) (hst' : ∀ rest, starEach (b' :: rest) c.env = (false, eval b' c.env) :: starEach rest c.env)
    (ha : VOk c Z a' fr (.int a) fr1) (hb' : VOk c Z b' fr1 (.int b) fr2) : EOk c Z (.Call (.Name (Str.ofString "max") p) [a', b'] [] pos) fr (.val (.int (if a < b then b else a))) fr2 := by
  intro m fz ex s Q S hz k
  refine call_shape (load_builtin ok S hb boot_max (by decide) (by decide) (callWith_mach rfl (hst _) (by rw [hst']; rfl) (spliced_more (ha m fz ex s _ S hz fun av fz1 h1 t1 s1 S1 v1 => spliced_more (hb' m fz1 ex _ _ S1 (fun q hq => s1 _ (hz q hq)) fun bv fz2 h2 t2 s2 S2 v2 => spliced_none ?_) (hst' _)) (hst _))))
  refine Val.intE v1 fun ta => ?_
  refine Val.intE v2 fun tb => ?_
  refine max_two_ints ok.hh fun h' tk hk => ?_
  have S3 := S2.keep hk
  have h0 : ∀ p ∈ fz, p ∈ fz2 := fun p hp => s2 p (s1 p hp)
  by_cases hab : a < b
  · have := k (.int b tb) fz2 h' tk h0 S3 (by rw [if_pos hab]; exact .int _ _)
    rw [if_pos hab]; exact this
  · have := k (.int a ta) fz2 h' tk h0 S3 (by rw [if_neg hab]; exact .int _ _)
    rw [if_neg hab]; exact this
theorem ok_min {a' b' : Expr} {p pos : Pos} {a b : Int} (ok : CxOk c d) (hb : BName c.K c.cs (Str.ofString "min")) (hst : ∀ rest, starEach (a' :: rest) c.env = (false, eval a' c.env) :: starEach rest c.env) (hst' : ∀ rest, starEach (b' :: rest) c.env = (false, eval b' c.env) :: starEach rest c.env)
    (ha : VOk c Z a' fr (.int a) fr1) (hb' : VOk c Z b' fr1 (.int b) fr2) : EOk c Z (.Call (.Name (Str.ofString "min") p) [a', b'] [] pos) fr (.val (.int (if b < a then b else a))) fr2 := by
  intro m fz ex s Q S hz k
  refine call_shape (load_builtin ok S hb boot_min (by decide) (by decide) (callWith_mach rfl (hst _) (by rw [hst']; rfl) (spliced_more (ha m fz ex s _ S hz fun av fz1 h1 t1 s1 S1 v1 => spliced_more (hb' m fz1 ex _ _ S1 (fun q hq => s1 _ (hz q hq)) fun bv fz2 h2 t2 s2 S2 v2 => spliced_none ?_) (hst' _)) (hst _))))
  refine Val.intE v1 fun ta => ?_
  refine Val.intE v2 fun tb => ?_
  refine min_two_ints ok.hh fun h' tk hk => ?_
  have S3 := S2.keep hk
  have h0 : ∀ p ∈ fz, p ∈ fz2 := fun p hp => s2 p (s1 p hp)
  by_cases hab : b < a
  · have := k (.int b tb) fz2 h' tk h0 S3 (by rw [if_pos hab]; exact .int _ _)
    rw [if_pos hab]; exact this
  · have := k (.int a ta) fz2 h' tk h0 S3 (by rw [if_neg hab]; exact .int _ _)
    rw [if_neg hab]; exact this

theorem ok_bitlen {e' : Expr} {ap pos : Pos} {n : Int} (hbase : attributeBase e' (Str.ofString "bit_length") c.env (eval e' c.env) = eval e' c.env) (hl : (ap.endLine == pos.line) = true) (h : VOk c Z e' fr (.int n) fr1) :
    EOk c Z (.Call (.Attribute e' (Str.ofString "bit_length") ap) [] [] pos) fr (.val (.int (bitLen n))) fr1 := by
  intro m fz ex s Q S hz k
  refine wpAny_Call_method hbase rfl hl PySem.F.plainAttrs_int PySem.F.slot_int_bit_length PySem.F.type_int_bit_length (h m fz ex s _ S hz fun vv fz1 h1 t1 s1 S1 v1 => ?_)
  cases v1
  refine ⟨typeIs_int _ _ _, fun a e => (by cases e), callWith_mach0 rfl (call_int_bit_length (k _ fz1 h1 _ s1 S1 (.int _ _)))⟩

theorem cmp_sound {op : COp} {a b : V} {t : Bool} {av bv : Value} {Q : Value → Shared → Prop} {E : Value → Shared → Prop} (ok : CxOk c d) (S : FSt c s.heap m fz ex fr) (h : cmp op a b = some t) (ha : Val c.fa fz a av) (hb : Val c.fa fz b bv) (k : Q (.bool t) s) :
    wpAny (model c.prog c.w) c.A (compareOp op.op av bv) Q E s := by
  have hu := ok.un
  unfold cmp at h
  split at h
  · cases ha; cases hb
    cases h
    exact cmpI_sound k
  · refine Val.listE ha fun _ _ _ hm hv => ?_
    refine Val.listE hb fun _ _ _ hm' hv' => ?_
    split at h
    · rename_i e1 e2
      cases h
      exact eq_intsK (isList_fz S hm) (hv.ints e1) (isList_fz S hm') (hv'.ints e2) (by omega) k
    · cases h
  · refine Val.listE ha fun _ _ _ hm hv => ?_
    refine Val.listE hb fun _ _ _ hm' hv' => ?_
    split at h
    · rename_i e1 e2
      cases h
      exact ne_intsK (isList_fz S hm) (hv.ints e1) (isList_fz S hm') (hv'.ints e2) (by omega) k
    · cases h
  · cases h

theorem tok_cmp {op : COp} {l' r' : Expr} {pos : Pos} {a b : V} {t : Bool} (ok : CxOk c d) (hl : VOk c Z l' fr a fr1) (hr : VOk c Z r' fr1 b fr2) (h : cmp op a b = some t) : TOk c Z (.Compare l' [op.op] [r'] pos) fr t fr2 := by
  intro m fz ex s Q S hz k
  refine wpAny_isTrue_Compare1 (hl m fz ex s _ S hz fun av fz1 h1 t1 s1 S1 v1 => hr m fz1 ex _ _ S1 (fun q hq => s1 _ (hz q hq)) fun bv fz2 h2 t2 s2 S2 v2 => ?_) (mark_no _ _)
  exact cmp_sound ok S2 h (v1.mono s2) v2 (wpAny_truthy_bool (k fz2 h2 _ (fun p hp => s2 p (s1 p hp)) S2))

theorem tok_cmp2 {o1 o2 : COp} {a' b' d' : Expr} {pos : Pos} {a b z : Int} {t : Bool} (ha : VOk c Z a' fr (.int a) fr1) (hb : VOk c Z b' fr1 (.int b) fr2)
    (h : (cmpI o1 a b = false ∧ t = false ∧ fr3 = fr2) ∨ (cmpI o1 a b = true ∧ VOk c Z d' fr2 (.int z) fr3 ∧ t = cmpI o2 b z)) :
    TOk c Z (.Compare a' [o1.op, o2.op] [b', d'] pos) fr t fr3 := by
  intro m fz ex s Q S hz k
  refine isTrue_chain (ha m fz ex s _ S hz fun av fz1 h1 t1 s1 S1 v1 => test_link (hb m fz1 ex _ _ S1 (fun q hq => s1 _ (hz q hq)) fun bv fz2 h2 t2 s2 S2 v2 => ?_)) (by simp [lastMarks, mark_no])
  have v1' := v1.mono s2
  cases v1'; cases v2
  refine cmpI_sound (wpAny_truthy_bool ?_)
  have h0 : ∀ p ∈ fz, p ∈ fz2 := fun p hp => s2 p (s1 p hp)
  rcases h with ⟨e, rfl, rfl⟩ | ⟨e, hd, rfl⟩
  · rw [e]; exact k fz2 h2 _ h0 S2
  · rw [e]
    refine test_last (hd m fz2 ex _ _ S2 (fun q hq => h0 _ (hz q hq)) fun dv fz3 h3 t3 s3 S3 v3 => ?_)
    cases v3
    exact cmpI_sound (wpAny_truthy_bool (k fz3 h3 _ (fun p hp => s3 p (h0 p hp)) S3))

theorem tok_isNone {e' : Expr} {n : Nat} {p pos : Pos} {v : V} {t : Bool} (h : VOk c Z e' fr v fr1) (ht : (v = .none ∧ t = true) ∨ ∃ vs, v = .list vs ∧ t = false) : TOk c Z (.Compare e' [.Is] [.Constant .none n p] pos) fr t fr1 := by
  intro m fz ex s Q S hz k
  refine wpAny_isTrue_Compare1 (h m fz ex s _ S hz fun av fz1 h1 t1 s1 S1 v1 => wpAny_Constant_none (is_none ?_)) rfl
  refine wpAny_truthy_bool ?_
  rcases ht with ⟨rfl, rfl⟩ | ⟨vs, rfl, rfl⟩
  · cases v1; exact k fz1 h1 _ s1 S1
  · cases v1; exact k fz1 h1 _ s1 S1

theorem tok_eqnil {p lp pos : Pos} {sl : Slot} {vs : List V} {ns : List Int} (ok : CxOk c d) (hx : c.names[i]? = some x) (hn : okName x = true) (e : fr[i]? = some sl) (hl : listS sl = some vs) (hi : intsV vs = some ns) :
    TOk c Z (.Compare (.Name x p) [.Eq] [.List [] lp] pos) fr (decide (ns = [])) fr := by
  intro m fz ex s Q S hz k
  obtain ⟨a, its, n, l, g, hv⟩ := slot_list S hx e hl
  refine wpAny_isTrue_Compare1 (load_name ok S l hn ?_) rfl
  refine (ok_list (c := c) (Z := Z) (es' := []) (pos := lp) (lok_nil (fr := fr)) (by simp)) m fz ex s _ S hz fun vv fz1 h1 t1 s1 S1 r1 => ?_
  obtain ⟨b, rfl, O, _⟩ := r1
  obtain ⟨a2, its2, n2, l2, g2, hv2⟩ := slot_list S1 hx e hl
  have hab := l.inj S1 s1 l2
  cases hab
  obtain ⟨itsb, nb, gb, hvb⟩ := O.get
  have hu := ok.un
  have hb : IntsAre itsb [] := by cases hvb; exact .nil
  exact eq_intsK (s := { s with heap := h1, toks := t1 }) (ns := ns) (ms := []) ⟨_, g2, rfl, n2, rfl⟩ (hv2.ints hi) ⟨_, gb, rfl, nb, rfl⟩ hb (by omega) (wpAny_truthy_bool (k fz1 h1 t1 s1 S1))

theorem tok_not {b' : Expr} {pos : Pos} {t : Bool} (h : TOk c Z b' fr t fr1) : TOk c Z (.UnaryOp .Not b' pos) fr (!t) fr1 := by
  intro m fz ex s Q S hz k
  exact isTrue_not (h m fz ex s _ S hz fun fz1 h1 t1 s1 S1 => k fz1 h1 t1 s1 S1)
theorem tok_and {a' b' : Expr} {pos : Pos} {t : Bool} (ha : TOk c Z a' fr true fr1) (hb : TOk c Z b' fr1 t fr2) : TOk c Z (.BoolOp .And [a', b'] pos) fr t fr2 := by
  intro m fz ex s Q S hz k
  refine isTrue_and (ha m fz ex s _ S hz fun fz1 h1 t1 s1 S1 => ?_)
  refine isTrue_and (hb m fz1 ex _ _ S1 (fun q hq => s1 _ (hz q hq)) fun fz2 h2 t2 s2 S2 => ?_)
  have := k fz2 h2 t2 (fun p hp => s2 p (s1 p hp)) S2
  cases t
  · exact this
  · exact isTrue_and_nil this
theorem tok_andF {a' b' : Expr} {pos : Pos} (ha : TOk c Z a' fr false fr1) : TOk c Z (.BoolOp .And [a', b'] pos) fr false fr1 := by
  intro m fz ex s Q S hz k
  exact isTrue_and (ha m fz ex s _ S hz fun fz1 h1 t1 s1 S1 => k fz1 h1 t1 s1 S1)
theorem tok_or {a' b' : Expr} {pos : Pos} {t : Bool} (ha : TOk c Z a' fr false fr1) (hb : TOk c Z b' fr1 t fr2) : TOk c Z (.BoolOp .Or [a', b'] pos) fr t fr2 := by
  intro m fz ex s Q S hz k
  refine isTrue_or (ha m fz ex s _ S hz fun fz1 h1 t1 s1 S1 => ?_)
  refine isTrue_or (hb m fz1 ex _ _ S1 (fun q hq => s1 _ (hz q hq)) fun fz2 h2 t2 s2 S2 => ?_)
  have := k fz2 h2 t2 (fun p hp => s2 p (s1 p hp)) S2
  cases t
  · exact isTrue_or_nil this
  · exact this
theorem tok_orT {a' b' : Expr} {pos : Pos} (ha : TOk c Z a' fr true fr1) : TOk c Z (.BoolOp .Or [a', b'] pos) fr true fr1 := by
  intro m fz ex s Q S hz k
  exact isTrue_or (ha m fz ex s _ S hz fun fz1 h1 t1 s1 S1 => k fz1 h1 t1 s1 S1)
end

structure Pl (e' : Expr) : Prop where
  star : ∀ (rest : List Expr) (env : Env), starEach (e' :: rest) env = (false, eval e' env) :: starEach rest env
  swaps : ∀ (t : Option Expr) (l : Nat) (env : Env), swapsWith e' t l env = pure false
  sub : ∀ (o i : Value), subscripted e' false o i = operate [o, i] (getItem o i)
  folded : ∀ (env : Env) (x : Value), foldedSetIterable e' env x = pure x
theorem plains {es' : List Expr} (h : ∀ x ∈ es', Pl x) (pos : Pos) (env : Env) : (backTo pos (starEach es' env)).any (·.1) = false := by
  induction es' with
  | nil => rfl
  | cons e' r ih =>
    rw [(h e' (.head _)).star]
    show (false || (backTo pos (starEach r env)).any (·.1)) = false
    rw [ih fun x hx => h x (.tail _ hx)]; rfl

section
variable (K : Frag) (fa : Nat → Addr) (cs : Scope) (names : List Str)
structure At (c : Cx) (d : Nat) (Z : Led) (C : CallF) : Prop where
  K : c.K = K
  fa : c.fa = fa
  cs : c.cs = cs
  nm : c.names = names
  ok : CxOk c d
  hC : CallSound c.prog c.w c.K c.p c.loose c.mean c.mg c.mb c.fa Z C d
structure TE (e : IE) (e' : Expr) : Prop where
  pl : Pl e'
  snd : ∀ {c d Z C}, At K fa cs names c d Z C → ∀ {fr fr' r}, evalE C e fr = some (r, fr') → EOk c Z e' fr r fr' ∧ KeepsIo fr fr'
structure TO (e : IE) (e' : Option Expr) : Prop where
  snd : ∀ {c d Z C}, At K fa cs names c d Z C → ∀ {fr fr' r}, evalE C e fr = some (r, fr') → POk c Z e' fr r.v fr' ∧ KeepsIo fr fr'
structure TB (b : IB) (b' : Expr) : Prop where
  snd : ∀ {c d Z C}, At K fa cs names c d Z C → ∀ {fr fr' t}, evalB C b fr = some (t, fr') → TOk c Z b' fr t fr' ∧ KeepsIo fr fr'
structure TEs (es : IEs) (es' : List Expr) : Prop where
  pl : ∀ x ∈ es', Pl x
  ind : ∀ {c d Z C}, At K fa cs names c d Z C → ∀ (M : List Expr → Frame → List R → Frame → Prop), (∀ fr, M [] fr [] fr) →
    (∀ {e' es' fr r fr1 rs fr2}, EOk c Z e' fr r fr1 → KeepsIo fr fr1 → Pl e' → M es' fr1 rs fr2 → M (e' :: es') fr (r :: rs) fr2) → ∀ {fr fr' rs}, evalEs C es fr = some (rs, fr') → M es' fr rs fr'
theorem TEs.snd {K fa cs names} {es : IEs} {es' : List Expr} (h : TEs K fa cs names es es') {c d Z C} (A : At K fa cs names c d Z C) {fr fr' rs} (g : evalEs C es fr = some (rs, fr')) :
    LOk c Z es' fr (rs.map R.v) fr' ∧ KeepsIo fr fr' ∧ rs.length = es'.length :=
  h.ind A (fun es' fr rs fr' => LOk c Z es' fr (rs.map R.v) fr' ∧ KeepsIo fr fr' ∧ rs.length = es'.length) (fun _ => ⟨lok_nil, .refl _, rfl⟩)
    (fun h1 h2 h3 h4 => ⟨lok_cons h1.v (h3.star _ _) h4.1, h2.trans h4.2.1, congrArg (· + 1) h4.2.2⟩) g
end

section
variable {K : Frag} {fa : Nat → Addr} {cs : Scope} {names : List Str} {i k n : Nat} {x y : Str} {p q ap pos : Pos} {e l r b t f ix lo hi : IE} {e' l' r' b' t' f' ix' : Expr} {es : IEs} {es' : List Expr}
theorem pl_name : Pl (.Name x p) := ⟨fun _ _ => rfl, fun _ _ _ => rfl, fun _ _ => rfl, fun _ _ => rfl⟩
theorem TE.var (hx : names[i]? = some x) (ok : okName x = true) : TE K fa cs names (.var i) (.Name x pos) :=
  ⟨pl_name, fun A fr fr' r h => by
    obtain ⟨rfl, rfl, rfl, rfl, ok', hC⟩ := A
    refine ⟨ok_var ok' hx ok h, ?_⟩
    simp only [ee1, ee2, ee3, ee4, ee5, ee6, ee7, ee8, ee9, ee10, ee11, ee12, ee13, ee14, ee15, ee16, ee17, ee18, ee19] at h
    split at h
    · cases h; exact .refl _
    · rename_i vs e; cases h; exact .set fun ws e' => by rw [e] at e'; cases e'
    · cases h⟩
theorem TE.gl (hk : nsIn K mainGlobals x = some (some (.ref (fa k)))) (hl : cs.names.lookup x = some .globalImplicit) (ok : okName x = true) : TE K fa cs names (.gl k) (.Name x pos) :=
  ⟨pl_name, fun A fr fr' r h => by
    obtain ⟨rfl, rfl, rfl, rfl, ok', hC⟩ := A
    simp only [ee1, ee2, ee3, ee4, ee5, ee6, ee7, ee8, ee9, ee10, ee11, ee12, ee13, ee14, ee15, ee16, ee17, ee18, ee19] at h; cases h; exact ⟨ok_gl ok' hk hl ok, .refl _⟩⟩
theorem TE.int {i : Int} : TE K fa cs names (.int i) (.Constant (.int i) k pos) :=
  ⟨⟨fun _ _ => rfl, fun _ _ _ => rfl, fun _ _ => rfl, fun _ _ => rfl⟩, fun A fr fr' r h => by
    obtain ⟨rfl, rfl, rfl, rfl, ok', hC⟩ := A
    simp only [ee1, ee2, ee3, ee4, ee5, ee6, ee7, ee8, ee9, ee10, ee11, ee12, ee13, ee14, ee15, ee16, ee17, ee18, ee19] at h; cases h; exact ⟨ok_int, .refl _⟩⟩
theorem TE.none : TE K fa cs names .none (.Constant .none k pos) :=
  ⟨⟨fun _ _ => rfl, fun _ _ _ => rfl, fun _ _ => rfl, fun _ _ => rfl⟩, fun A fr fr' r h => by
    obtain ⟨rfl, rfl, rfl, rfl, ok', hC⟩ := A
    simp only [ee1, ee2, ee3, ee4, ee5, ee6, ee7, ee8, ee9, ee10, ee11, ee12, ee13, ee14, ee15, ee16, ee17, ee18, ee19] at h; cases h; exact ⟨ok_none, .refl _⟩⟩
theorem TE.bin {op : BOp} (hl : TE K fa cs names l l') (hr : TE K fa cs names r r') : TE K fa cs names (.bin op l r) (.BinOp l' op.op r' pos) :=
  ⟨⟨fun _ _ => rfl, fun _ _ _ => rfl, fun _ _ => rfl, fun _ _ => rfl⟩, fun A fr fr' r h => by
    simp only [ee1, ee2, ee3, ee4, ee5, ee6, ee7, ee8, ee9, ee10, ee11, ee12, ee13, ee14, ee15, ee16, ee17, ee18, ee19] at h
    split at h
    · cases h
    · rename_i a fr1 e1
      split at h
      · cases h
      · rename_i b fr2 e2
        simp only [Option.map_eq_some_iff] at h
        obtain ⟨r', hb, e⟩ := h
        cases e
        have h1 := hl.snd A e1
        have h2 := hr.snd A e2
        exact ⟨ok_bin h1.1.v h2.1.v hb, h1.2.trans h2.2⟩⟩
theorem TE.neg (he : TE K fa cs names e e') : TE K fa cs names (.neg e) (.UnaryOp .USub e' pos) :=
  ⟨⟨fun _ _ => rfl, fun _ _ _ => rfl, fun _ _ => rfl, fun _ _ => rfl⟩, fun A fr fr' r h => by
    simp only [ee1, ee2, ee3, ee4, ee5, ee6, ee7, ee8, ee9, ee10, ee11, ee12, ee13, ee14, ee15, ee16, ee17, ee18, ee19] at h
    split at h
    · rename_i n fr1 e1
      cases h
      have h1 := he.snd A e1
      exact ⟨ok_neg h1.1.v, h1.2⟩
    · cases h⟩
theorem TE.ite {b : IB} (hb : TB K fa cs names b b') (ht : TE K fa cs names t t') (hf : TE K fa cs names f f') : TE K fa cs names (.ite b t f) (.IfExp b' t' f' pos) :=
  ⟨⟨fun _ _ => rfl, fun _ _ _ => rfl, fun _ _ => rfl, fun _ _ => rfl⟩, fun A fr fr' r h => by
    simp only [ee1, ee2, ee3, ee4, ee5, ee6, ee7, ee8, ee9, ee10, ee11, ee12, ee13, ee14, ee15, ee16, ee17, ee18, ee19] at h
    split at h
    · cases h
    · rename_i fr1 e1
      simp only [Option.map_eq_some_iff] at h
      obtain ⟨⟨r, fr2⟩, e2, e⟩ := h
      cases e
      have h1 := hb.snd A e1
      have h2 := ht.snd A e2
      exact ⟨ok_ite h1.1 h2.1.v, h1.2.trans h2.2⟩
    · rename_i fr1 e1
      simp only [Option.map_eq_some_iff] at h
      obtain ⟨⟨r, fr2⟩, e2, e⟩ := h
      cases e
      have h1 := hb.snd A e1
      have h2 := hf.snd A e2
      exact ⟨ok_ite h1.1 h2.1.v, h1.2.trans h2.2⟩⟩
theorem TE.idxv (hx : names[i]? = some x) (ok : okName x = true) (hi : TE K fa cs names ix ix') : TE K fa cs names (.idxv i ix) (.Subscript (.Name x p) ix' pos) :=
  ⟨⟨fun _ _ => rfl, fun _ _ _ => rfl, fun _ _ => rfl, fun _ _ => rfl⟩, fun A fr fr' r h => by
    simp only [ee1, ee2, ee3, ee4, ee5, ee6, ee7, ee8, ee9, ee10, ee11, ee12, ee13, ee14, ee15, ee16, ee17, ee18, ee19] at h
    split at h
    · rename_i h0
      obtain ⟨vs0, h0⟩ := Option.isSome_iff_exists.mp h0
      obtain ⟨sl0, e0, l0⟩ := Option.bind_eq_some_iff.mp h0
      split at h
      · rename_i n fr1 e1
        split at h
        · rename_i vs e2
          obtain ⟨sl, e3, l1⟩ := Option.bind_eq_some_iff.mp e2
          simp only [Option.map_eq_some_iff] at h
          obtain ⟨v, hv, e⟩ := h
          cases e
          have h1 := hi.snd A e1
          exact ⟨ok_idxv A.ok (A.nm ▸ hx) ok h1.1.v hi.pl.sub e0 l0 e3 l1 hv, h1.2⟩
        · cases h
      · cases h
    · cases h⟩
theorem TE.idxe (he : TE K fa cs names e e') (hi : TE K fa cs names ix ix') : TE K fa cs names (.idxe e ix) (.Subscript e' ix' pos) :=
  ⟨⟨fun _ _ => rfl, fun _ _ _ => rfl, fun _ _ => rfl, fun _ _ => rfl⟩, fun A fr fr' r h => by
    simp only [ee1, ee2, ee3, ee4, ee5, ee6, ee7, ee8, ee9, ee10, ee11, ee12, ee13, ee14, ee15, ee16, ee17, ee18, ee19] at h
    split at h
    · cases h
    · rename_i bv fr1 e1
      split at h
      · rename_i n fr2 e2
        split at h
        · rename_i vs e3
          simp only [Option.map_eq_some_iff] at h
          obtain ⟨v, hv, e⟩ := h
          cases e
          have h1 := he.snd A e1
          have h2 := hi.snd A e2
          exact ⟨ok_idxe h1.1.v h2.1.v hi.pl.sub e3 hv, h1.2.trans h2.2⟩
        · cases h
      · cases h⟩
theorem TE.slc {lo' hi' : Option Expr} (hx : names[i]? = some x) (ok : okName x = true) (hl : TO K fa cs names lo lo') (hh : TO K fa cs names hi hi') : TE K fa cs names (.slc i lo hi) (.Subscript (.Name x p) (.Slice lo' hi' Option.none q) pos) :=
  ⟨⟨fun _ _ => rfl, fun _ _ _ => rfl, fun _ _ => rfl, fun _ _ => rfl⟩, fun A fr fr' r h => by
    simp only [ee1, ee2, ee3, ee4, ee5, ee6, ee7, ee8, ee9, ee10, ee11, ee12, ee13, ee14, ee15, ee16, ee17, ee18, ee19] at h
    split at h
    · rename_i h0
      obtain ⟨vs0, h0⟩ := Option.isSome_iff_exists.mp h0
      obtain ⟨sl0, e0, l0⟩ := Option.bind_eq_some_iff.mp h0
      split at h
      · cases h
      · rename_i l fr1 e1
        split at h
        · cases h
        · rename_i u fr2 e2
          split at h
          · rename_i vs e3
            obtain ⟨sl, e3, l1⟩ := Option.bind_eq_some_iff.mp e3
            split at h
            · rename_i hle
              simp only [Option.map_eq_some_iff] at h
              obtain ⟨ws, hw, e⟩ := h
              cases e
              have h1 := hl.snd A e1
              have h2 := hh.snd A e2
              exact ⟨ok_slc A.ok (A.nm ▸ hx) ok h1.1 h2.1 e0 l0 e3 l1 hle hw, h1.2.trans h2.2⟩
            · cases h
          · cases h
    · cases h⟩
theorem TE.list (hle : es'.length ≤ 100) (hs : TEs K fa cs names es es') : TE K fa cs names (.list es) (.List es' pos) :=
  ⟨⟨fun _ _ => rfl, fun _ _ _ => rfl, fun _ _ => rfl, fun _ _ => rfl⟩, fun A fr fr' r h => by
    simp only [ee1, ee2, ee3, ee4, ee5, ee6, ee7, ee8, ee9, ee10, ee11, ee12, ee13, ee14, ee15, ee16, ee17, ee18, ee19, Option.map_eq_some_iff] at h
    obtain ⟨⟨rs, fr1⟩, e1, e⟩ := h
    cases e
    have h1 := hs.snd A e1
    exact ⟨ok_list h1.1 (by have := h1.2.2; simp only [List.length_map]; unfold lenLim; omega), h1.2.1⟩⟩
theorem TE.tup (hle : es'.length ≤ 100) (hs : TEs K fa cs names es es') : TE K fa cs names (.tup es) (.Tuple es' k pos) :=
  ⟨⟨fun _ _ => rfl, fun _ _ _ => rfl, fun _ _ => rfl, fun _ _ => rfl⟩, fun A fr fr' r h => by
    simp only [ee1, ee2, ee3, ee4, ee5, ee6, ee7, ee8, ee9, ee10, ee11, ee12, ee13, ee14, ee15, ee16, ee17, ee18, ee19, Option.map_eq_some_iff] at h
    obtain ⟨⟨rs, fr1⟩, e1, e⟩ := h
    cases e
    have h1 := hs.snd A e1
    exact ⟨ok_tup h1.1 (by have := h1.2.2; simp only [List.length_map]; unfold lenLim; omega), h1.2.1⟩⟩
theorem TE.call (hf : TE K fa cs names f (.Name x p)) (h : TEs K fa cs names (.cons e es) (e' :: es')) : TE K fa cs names (.call f (.cons e es)) (.Call (.Name x p) (e' :: es') [] pos) :=
  ⟨⟨fun _ _ => rfl, fun _ _ _ => rfl, fun _ _ => rfl, fun _ _ => rfl⟩, fun A fr fr' r g => by
    obtain ⟨rfl, rfl, rfl, rfl, ok', hC⟩ := A
    have A : At _ _ _ _ _ _ _ _ := ⟨rfl, rfl, rfl, rfl, ok', hC⟩
    simp only [ee1, ee2, ee3, ee4, ee5, ee6, ee7, ee8, ee9, ee10, ee11, ee12, ee13, ee14, ee15, ee16, ee17, ee18, ee19] at g
    split at g
    · rename_i v fr1 ef
      split at g
      · cases g
      · rename_i vs fr2 ee
        simp only [Option.map_eq_some_iff] at g
        obtain ⟨⟨v, o⟩, hc, e⟩ := g
        cases e
        have h1 := hf.snd A ef
        have h2 := h.snd A ee
        exact ⟨ok_call ok' hC h1.1 h2.1 ((h.pl _ (.head _)).star _ _) (plains (fun z hz => h.pl z (.tail _ hz)) _ _) hc, h1.2.trans h2.2.1⟩
    · cases g⟩
theorem TE.callio (hf : TE K fa cs names f (.Name x p)) (hx : names[i]? = some y) (hn : okName y = true) (hs : TEs K fa cs names es es') : TE K fa cs names (.callio f i es) (.Call (.Name x p) (.Name y q :: es') [] pos) :=
  ⟨⟨fun _ _ => rfl, fun _ _ _ => rfl, fun _ _ => rfl, fun _ _ => rfl⟩, fun A fr fr' r h => by
    obtain ⟨rfl, rfl, rfl, rfl, ok', hC⟩ := A
    have A : At _ _ _ _ _ _ _ _ := ⟨rfl, rfl, rfl, rfl, ok', hC⟩
    simp only [ee1, ee2, ee3, ee4, ee5, ee6, ee7, ee8, ee9, ee10, ee11, ee12, ee13, ee14, ee15, ee16, ee17, ee18, ee19] at h
    split at h
    · rename_i g fr1 ef
      split at h
      · rename_i hown
        have e1 : ∃ t, fr1[i]? = some t ∧ t.owned = true := by
          unfold ownedAt at hown
          split at hown
          · rename_i t et; exact ⟨t, et, hown⟩
          · cases hown
        split at h
        · cases h
        · rename_i vs fr2 ee
          have h1 := hf.snd A ef
          have h2 := hs.snd A ee
          split at h
          · rename_i ws e2
            simp only [Option.map_eq_some_iff] at h
            obtain ⟨⟨v, o⟩, hc, e⟩ := h
            cases e
            exact ⟨ok_callio ok' hC h1.1 hx hn h2.1 (plains hs.pl _ _) e1 e2 (.inl ⟨rfl, rfl⟩) hc, (h1.2.trans h2.2.1).trans (.set fun ws e' => by rw [e2] at e'; cases e')⟩
          · rename_i ws e2
            simp only [Option.map_eq_some_iff] at h
            obtain ⟨⟨v, o⟩, hc, e⟩ := h
            cases e
            exact ⟨ok_callio ok' hC h1.1 hx hn h2.1 (plains hs.pl _ _) e1 e2 (.inr ⟨rfl, rfl⟩) hc, (h1.2.trans h2.2.1).trans (.set fun ws e' => ⟨_, rfl⟩)⟩
          · cases h
      · cases h
    · cases h⟩
theorem TE.lenv (hb : BName K cs (Str.ofString "len")) (hx : names[i]? = some x) (hn : okName x = true) : TE K fa cs names (.lenv i) (.Call (.Name (Str.ofString "len") p) [.Name x q] [] pos) :=
  ⟨⟨fun _ _ => rfl, fun _ _ _ => rfl, fun _ _ => rfl, fun _ _ => rfl⟩, fun A fr fr' r h => by
    obtain ⟨rfl, rfl, rfl, rfl, ok', hC⟩ := A
    simp only [ee1, ee2, ee3, ee4, ee5, ee6, ee7, ee8, ee9, ee10, ee11, ee12, ee13, ee14, ee15, ee16, ee17, ee18, ee19] at h
    split at h
    · rename_i vs e3
      obtain ⟨sl, e3, l1⟩ := Option.bind_eq_some_iff.mp e3
      split at h
      · rename_i hle
        cases h
        exact ⟨ok_lenv ok' hb hx hn e3 l1 hle, .refl _⟩
      · cases h
    · cases h⟩
theorem TE.lene (hb : BName K cs (Str.ofString "len")) (hs : TE K fa cs names e e') : TE K fa cs names (.lene e) (.Call (.Name (Str.ofString "len") p) [e'] [] pos) :=
  ⟨⟨fun _ _ => rfl, fun _ _ _ => rfl, fun _ _ => rfl, fun _ _ => rfl⟩, fun A fr fr' r h => by
    obtain ⟨rfl, rfl, rfl, rfl, ok', hC⟩ := A
    simp only [ee1, ee2, ee3, ee4, ee5, ee6, ee7, ee8, ee9, ee10, ee11, ee12, ee13, ee14, ee15, ee16, ee17, ee18, ee19] at h
    split at h
    · rename_i r fr1 e1
      split at h
      · rename_i vs e3
        split at h
        · rename_i hle
          cases h
          have h1 := hs.snd ⟨rfl, rfl, rfl, rfl, ok', hC⟩ e1
          have := h1.1.v
          rw [e3] at this
          exact ⟨ok_lene ok' hb (hs.pl.star _ _) this hle, h1.2⟩
        · cases h
      · cases h
    · cases h⟩
theorem TE.max (hb : BName K cs (Str.ofString "max")) (ha : TE K fa cs names l l') (hb' : TE K fa cs names r r') : TE K fa cs names (.max l r) (.Call (.Name (Str.ofString "max") p) [l', r'] [] pos) :=
  ⟨⟨fun _ _ => rfl, fun _ _ _ => rfl, fun _ _ => rfl, fun _ _ => rfl⟩, fun A fr fr' _ h => by
    obtain ⟨rfl, rfl, rfl, rfl, ok', hC⟩ := A
    simp only [ee1, ee2, ee3, ee4, ee5, ee6, ee7, ee8, ee9, ee10, ee11, ee12, ee13, ee14, ee15, ee16, ee17, ee18, ee19] at h
    split at h
    · rename_i x fr1 e1
      split at h
      · rename_i y fr2 e2
        cases h
        have h1 := ha.snd ⟨rfl, rfl, rfl, rfl, ok', hC⟩ e1
        have h2 := hb'.snd ⟨rfl, rfl, rfl, rfl, ok', hC⟩ e2
        exact ⟨ok_max ok' hb (fun _ => ha.pl.star _ _) (fun _ => hb'.pl.star _ _) h1.1.v h2.1.v, h1.2.trans h2.2⟩
      · cases h
    · cases h⟩
theorem TE.min (hb : BName K cs (Str.ofString "min")) (ha : TE K fa cs names l l') (hb' : TE K fa cs names r r') : TE K fa cs names (.min l r) (.Call (.Name (Str.ofString "min") p) [l', r'] [] pos) :=
  ⟨⟨fun _ _ => rfl, fun _ _ _ => rfl, fun _ _ => rfl, fun _ _ => rfl⟩, fun A fr fr' _ h => by
    obtain ⟨rfl, rfl, rfl, rfl, ok', hC⟩ := A
    simp only [ee1, ee2, ee3, ee4, ee5, ee6, ee7, ee8, ee9, ee10, ee11, ee12, ee13, ee14, ee15, ee16, ee17, ee18, ee19] at h
    split at h
    · rename_i x fr1 e1
      split at h
      · rename_i y fr2 e2
        cases h
        have h1 := ha.snd ⟨rfl, rfl, rfl, rfl, ok', hC⟩ e1
        have h2 := hb'.snd ⟨rfl, rfl, rfl, rfl, ok', hC⟩ e2
        exact ⟨ok_min ok' hb (fun _ => ha.pl.star _ _) (fun _ => hb'.pl.star _ _) h1.1.v h2.1.v, h1.2.trans h2.2⟩
      · cases h
    · cases h⟩
theorem te_bitlen (hbase : ∀ env, attributeBase e' (Str.ofString "bit_length") env (eval e' env) = eval e' env) (hb : TE K fa cs names e e') (hl : (ap.endLine == pos.line) = true) : TE K fa cs names (.bitlen e) (.Call (.Attribute e' (Str.ofString "bit_length") ap) [] [] pos) :=
  ⟨⟨fun _ _ => rfl, fun _ _ _ => rfl, fun _ _ => rfl, fun _ _ => rfl⟩, fun A fr fr' r h => by
    simp only [ee1, ee2, ee3, ee4, ee5, ee6, ee7, ee8, ee9, ee10, ee11, ee12, ee13, ee14, ee15, ee16, ee17, ee18, ee19] at h
    split at h
    · rename_i n fr1 e1
      cases h
      have h1 := hb.snd A e1
      exact ⟨ok_bitlen (hbase _) hl h1.1.v, h1.2⟩
    · cases h⟩
theorem TE.bitlenv (h : TE K fa cs names (.var i) (.Name x p)) (hl : (ap.endLine == pos.line) = true) : TE K fa cs names (.bitlen (.var i)) (.Call (.Attribute (.Name x p) (Str.ofString "bit_length") ap) [] [] pos) := te_bitlen (fun _ => rfl) h hl
theorem TE.bitlens (h : TE K fa cs names (.idxv i ix) (.Subscript (.Name x p) ix' q)) (hl : (ap.endLine == pos.line) = true) : TE K fa cs names (.bitlen (.idxv i ix)) (.Call (.Attribute (.Subscript (.Name x p) ix' q) (Str.ofString "bit_length") ap) [] [] pos) := te_bitlen (fun _ => rfl) h hl
theorem TO.none : TO K fa cs names .none Option.none := ⟨fun A fr fr' r h => by simp only [ee1, ee2, ee3, ee4, ee5, ee6, ee7, ee8, ee9, ee10, ee11, ee12, ee13, ee14, ee15, ee16, ee17, ee18, ee19] at h; cases h; exact ⟨pok_none, .refl _⟩⟩
theorem TO.some (h : TE K fa cs names e e') : TO K fa cs names e (Option.some e') := ⟨fun A _ _ _ g => have h1 := h.snd A g; ⟨pok_some h1.1.v, h1.2⟩⟩
section
variable {a b d : IB} {a' b' d' : Expr}
theorem TB.cmp {op : COp} (hl : TE K fa cs names l l') (hr : TE K fa cs names r r') : TB K fa cs names (.cmp op l r) (.Compare l' [op.op] [r'] pos) :=
  ⟨fun A fr fr' t h => by
    simp only [eb1, eb2, eb3, eb4, eb5, eb6, eb7] at h
    split at h
    · cases h
    · rename_i a fr1 e1
      split at h
      · cases h
      · rename_i b fr2 e2
        simp only [Option.map_eq_some_iff] at h
        obtain ⟨t, ht, e⟩ := h
        cases e
        have h1 := hl.snd A e1
        have h2 := hr.snd A e2
        exact ⟨tok_cmp A.ok h1.1.v h2.1.v ht, h1.2.trans h2.2⟩⟩
theorem TB.cmp2 {o1 o2 : COp} (ha : TE K fa cs names e e') (hb : TE K fa cs names l l') (hz : TE K fa cs names r r') : TB K fa cs names (.cmp2 o1 o2 e l r) (.Compare e' [o1.op, o2.op] [l', r'] pos) :=
  ⟨fun A fr fr' t h => by
    simp only [eb1, eb2, eb3, eb4, eb5, eb6, eb7] at h
    split at h
    · rename_i x fr1 e1
      have h1 := ha.snd A e1
      split at h
      · rename_i y fr2 e2
        have h2 := hb.snd A e2
        split at h
        · rename_i hc
          cases h
          exact ⟨tok_cmp2 (z := 0) h1.1.v h2.1.v (.inl ⟨hc, rfl, rfl⟩), h1.2.trans h2.2⟩
        · rename_i hc
          split at h
          · rename_i zz fr3 e3
            cases h
            have h3 := hz.snd A e3
            exact ⟨tok_cmp2 h1.1.v h2.1.v (.inr ⟨hc, h3.1.v, rfl⟩), (h1.2.trans h2.2).trans h3.2⟩
          · cases h
      · cases h
    · cases h⟩
theorem TB.isNone (he : TE K fa cs names e e') : TB K fa cs names (.isNone e) (.Compare e' [.Is] [.Constant .none k p] pos) :=
  ⟨fun A fr fr' t h => by
    simp only [eb1, eb2, eb3, eb4, eb5, eb6, eb7] at h
    split at h
    · rename_i fr1 e1
      cases h
      have h1 := he.snd A e1
      exact ⟨tok_isNone h1.1.v (.inl ⟨rfl, rfl⟩), h1.2⟩
    · rename_i vs fr1 e1
      cases h
      have h1 := he.snd A e1
      exact ⟨tok_isNone h1.1.v (.inr ⟨_, rfl, rfl⟩), h1.2⟩
    · cases h⟩
theorem TB.eqnil (hx : names[i]? = some x) (hn : okName x = true) : TB K fa cs names (.eqnil i) (.Compare (.Name x p) [.Eq] [.List [] q] pos) :=
  ⟨fun A fr fr' t h => by
    simp only [eb1, eb2, eb3, eb4, eb5, eb6, eb7] at h
    split at h
    · rename_i vs e1
      simp only [Option.map_eq_some_iff] at h
      obtain ⟨ns, e2, e3⟩ := h
      cases e3
      obtain ⟨sl, e4, e5⟩ := Option.bind_eq_some_iff.mp e1
      exact ⟨tok_eqnil A.ok (A.nm ▸ hx) hn e4 e5 e2, .refl _⟩
    · cases h⟩
theorem TB.not (hb : TB K fa cs names b b') : TB K fa cs names (.not b) (.UnaryOp .Not b' pos) :=
  ⟨fun A fr fr' t h => by
    simp only [eb1, eb2, eb3, eb4, eb5, eb6, eb7, Option.map_eq_some_iff] at h
    obtain ⟨⟨t, fr1⟩, e1, e⟩ := h
    cases e
    have h1 := hb.snd A e1
    exact ⟨tok_not h1.1, h1.2⟩⟩
theorem TB.and (ha : TB K fa cs names a a') (hb : TB K fa cs names b b') : TB K fa cs names (.and a b) (.BoolOp .And [a', b'] pos) :=
  ⟨fun A fr fr' t h => by
    simp only [eb1, eb2, eb3, eb4, eb5, eb6, eb7] at h
    split at h
    · cases h
    · rename_i fr1 e1
      cases h
      have h1 := ha.snd A e1
      exact ⟨tok_andF h1.1, h1.2⟩
    · rename_i fr1 e1
      have h1 := ha.snd A e1
      have h2 := hb.snd A h
      exact ⟨tok_and h1.1 h2.1, h1.2.trans h2.2⟩⟩
theorem TB.or (ha : TB K fa cs names a a') (hb : TB K fa cs names b b') : TB K fa cs names (.or a b) (.BoolOp .Or [a', b'] pos) :=
  ⟨fun A fr fr' t h => by
    simp only [eb1, eb2, eb3, eb4, eb5, eb6, eb7] at h
    split at h
    · cases h
    · rename_i fr1 e1
      cases h
      have h1 := ha.snd A e1
      exact ⟨tok_orT h1.1, h1.2⟩
    · rename_i fr1 e1
      have h1 := ha.snd A e1
      have h2 := hb.snd A h
      exact ⟨tok_or h1.1 h2.1, h1.2.trans h2.2⟩⟩
end
theorem TEs.nil : TEs K fa cs names .nil [] := ⟨(fun x hx => by cases hx), fun A M h0 h1 fr fr' rs h => by simp only [el1, el2] at h; cases h; exact h0 _⟩
theorem TEs.cons (he : TE K fa cs names e e') (hr : TEs K fa cs names es es') : TEs K fa cs names (.cons e es) (e' :: es') :=
  ⟨List.forall_mem_cons.mpr ⟨he.pl, hr.pl⟩, fun A M h0 hs fr fr' rs h => by
    simp only [el1, el2] at h
    split at h
    · cases h
    · rename_i a fr1 e1
      simp only [Option.map_eq_some_iff] at h
      obtain ⟨⟨rs, fr2⟩, e2, e3⟩ := h
      cases e3
      have h1 := he.snd A e1
      exact hs h1.1 h1.2 he.pl (hr.ind A M h0 hs e2)⟩
end
end Mine
end PSnd5

section PSnd6
set_option maxRecDepth 100000
open PySem PySem.W PySem.Spec PySem.Calls PyProof.Rows
namespace Mine

noncomputable def FlV (fa : Nat → Addr) (fz : Led) : Fl → Flow → Prop
  | .next, .next => True
  | .cont, .cont => True
  | .ret v, .ret x => Val fa fz v x
  | _, _ => False

noncomputable def IoSame (c : Cx) (fr fr' : Frame) (m m' : Str → Option Value) : Prop :=
  ∀ (i : Nat) (vs : List V) (x : Str), fr[i]? = some (.io vs) → c.names[i]? = some x → m' x = m x ∧ ∃ vs', fr'[i]? = some (.io vs')
theorem IoSame.of {c : Cx} {fr fr' : Frame} {m : Str → Option Value} (h : KeepsIo fr fr') : IoSame c fr fr' m m := fun i vs x e _ => ⟨rfl, h i vs e⟩
theorem IoSame.trans {c : Cx} {a b d : Frame} {m m' m'' : Str → Option Value} (h : IoSame c a b m m') (k : IoSame c b d m' m'') : IoSame c a d m m'' := fun i vs x e hx => by
  obtain ⟨e1, vs', e2⟩ := h i vs x e hx
  obtain ⟨e3, e4⟩ := k i vs' x e2 hx
  exact ⟨e3.trans e1, e4⟩

noncomputable def KontS (c : Cx) (m : Str → Option Value) (fz ex : Led) (fr : Frame) (fl : Fl) (fr' : Frame) (s : Shared) (Q : Flow → Shared → Prop) : Prop :=
  ∀ flv m' fz' h' tk', (∀ p ∈ fz, p ∈ fz') → FSt c h' m' fz' ex fr' → IoSame c fr fr' m m' → FlV c.fa fz' fl flv → Q flv { s with heap := h', toks := tk' }
noncomputable def SOk (c : Cx) (Z : Led) (t : Sem Flow) (fr : Frame) (fl : Fl) (fr' : Frame) : Prop :=
  ∀ (m : Str → Option Value) (fz ex : Led) (s : Shared) (Q : Flow → Shared → Prop), FSt c s.heap m fz ex fr → (∀ q ∈ Z, q ∈ fz) → KontS c m fz ex fr fl fr' s Q → wpAny (model c.prog c.w) c.A t Q NoE s

section
variable {c : Cx} {d : Nat} {Z : Led} {m : Str → Option Value} {fz fz' ex : Led} {fr fr' fr1 fr2 fr3 : Frame} {s : Shared} {x : Str} {i : Nat}

theorem put_eq {sl : Slot} (h : put fr i sl = some fr') : ∃ t, fr[i]? = some t ∧ (∀ vs, t ≠ .io vs) ∧ fr' = fr.set i sl := by
  unfold put at h
  split at h
  · rename_i ho
    cases h
    cases q : fr[i]? with
    | none => rw [q] at ho; cases ho
    | some t =>
      rw [q] at ho
      exact ⟨t, rfl, fun vs e => (by subst e; cases ho), rfl⟩
  · cases h

theorem store_sound {r : R} {vv : Value} {Q : Unit → Shared → Prop} {E : Value → Shared → Prop} (ok : CxOk c d) (S : FSt c s.heap m fz ex fr) (hx : c.names[i]? = some x) (hl : c.cs.names.lookup x = some .local) (hp : put fr i r.slot = some fr') (hr : RV c s.heap m fz ex fr vv r)
    (k : ∀ h', Heap.SameBut c.L s.heap h' → FSt c h' (fun y => if y = x then some vv else m y) fz ex fr' → IoSame c fr fr' m (fun y => if y = x then some vv else m y) → Q () { s with heap := h', toks := s.toks + 1 }) :
    wpAny (model c.prog c.w) c.A (storeName c.env x vv) Q E s := by
  obtain ⟨t0, e0, hne, rfl⟩ := put_eq hp
  have hi : i < fr.length := (List.getElem?_eq_some_iff.mp e0).1
  refine wpAny_storeName_local (env := c.env) hl S.F.ns (fun h' hn hs => k h' hs ⟨S.F.set hn hs, S.N.set hs, S.dis, fun j t et => ?_, fun j k2 t u y z b b' hjk et eu ht hu hy hz hb hb' => ?_⟩ fun j vs y ej hy => ?_) ?_
  · by_cases hj : i = j
    · subst hj
      rw [List.getElem?_set_self hi] at et
      cases et
      refine ⟨x, hx, ?_⟩
      cases r with
      | val v => exact ⟨vv, .inl ⟨hl, by simp⟩, hr⟩
      | fresh vs =>
        obtain ⟨a, rfl, O, off⟩ := hr
        exact ⟨hl, a, by simp, O.keep fun o e => (hs.2 a O.ne).trans e⟩
    · rw [List.getElem?_set_ne hj] at et
      obtain ⟨y, hy, y'⟩ := S.sl j t et
      have hyx : y ≠ x := fun e => names_inj ok hx hy hj e.symm
      refine ⟨y, hy, ?_⟩
      cases t with
      | unset => trivial
      | val v =>
        obtain ⟨w, l, v'⟩ := y'
        refine ⟨w, ?_, v'⟩
        rcases l with ⟨l1, l2⟩ | l
        · exact .inl ⟨l1, by simp [hyx, l2]⟩
        · exact .inr l
      | own us => obtain ⟨kk, b, e', O'⟩ := y'; exact ⟨kk, b, by simp [hyx, e'], O'.keep fun o e => (hs.2 b O'.ne).trans e⟩
      | io us => obtain ⟨kk, b, e', O'⟩ := y'; exact ⟨kk, b, by simp [hyx, e'], O'.keep fun o e => (hs.2 b O'.ne).trans e⟩
  · have look : ∀ {j : Nat} {t : Slot} {y : Str} {b : Addr}, i ≠ j → c.names[j]? = some y → (if y = x then some vv else m y) = some (.ref b) → m y = some (.ref b) := fun {j t y b} hj hy hb => by
      have hyx : y ≠ x := fun e => names_inj ok hx hy hj e.symm
      simpa [hyx] using hb
    have own : ∀ {j : Nat} {t : Slot} {y : Str} {b a : Addr}, i ≠ j → (fr.set i r.slot)[j]? = some t → t.owned = true → c.names[j]? = some y → (if y = x then some vv else m y) = some (.ref b) → vv = .ref a → r.slot.owned = true → b ≠ a := fun {j₁ t₁ y₁ b₁ a₁} hj₁ et₁ ht₁ hy₁ hb₁ ha₁ hro₁ => by
      rw [List.getElem?_set_ne hj₁] at et₁
      have hr₁ := hr
      have hro₂ := hro₁
      clear hr hro₁ et eu hp k
      cases r with
      | val v => cases hro₂
      | fresh vs =>
        obtain ⟨a', e, O, off⟩ := hr₁
        rw [ha₁] at e; cases e
        exact off j₁ t₁ y₁ b₁ et₁ ht₁ hy₁ (look (t := t₁) hj₁ hy₁ hb₁)
    by_cases hj : i = j
    · subst hj
      rw [hx] at hy; cases hy
      rw [List.getElem?_set_self hi] at et
      cases et
      simp only [if_true] at hb
      exact Ne.symm (own hjk eu hu hz hb' (Option.some.inj hb) ht)
    · by_cases hk : i = k2
      · subst hk
        rw [hx] at hz; cases hz
        rw [List.getElem?_set_self hi] at eu
        cases eu
        simp only [if_true] at hb'
        exact own hj et ht hy hb (Option.some.inj hb') hu
      · have et' := et; have eu' := eu
        rw [List.getElem?_set_ne hj] at et'
        rw [List.getElem?_set_ne hk] at eu'
        exact S.apart j k2 t u y z b b' hjk et' eu' ht hu hy hz (look (t := t) hj hy hb) (look (t := u) hk hz hb')
  · have hj : i ≠ j := fun q => by subst q; rw [e0] at ej; cases ej; exact hne vs rfl
    have hyx : y ≠ x := fun e => names_inj ok hx hy hj e.symm
    exact ⟨by simp [hyx], vs, by rw [List.getElem?_set_ne hj]; exact ej⟩
  · show (c.cs.kind == .class || (c.cs.kind == .module && c.L != mainGlobals)) = false
    rw [ok.kind]; rfl

theorem sok_asg {e' : Expr} {p pos : Pos} {r : R} (ok : CxOk c d) (hx : c.names[i]? = some x) (hl : c.cs.names.lookup x = some .local) (he : EOk c Z e' fr r fr1) (hio : KeepsIo fr fr1) (hp : put fr1 i r.slot = some fr2) (hsw : ∀ t l, swapsWith e' t l c.env = pure false) :
    SOk c Z (exec (.Assign [.Name x p] e' pos) c.env) fr .next fr2 := by
  intro m fz ex s Q S hz k
  refine wpAny_Assign_Name (he m fz ex s _ S hz fun vv fz1 h1 t1 s1 S1 r1 => store_sound ok S1 hx hl hp r1 fun h2 _ S2 io2 => ?_) (hsw _ _)
  exact k .next _ fz1 h2 _ s1 S2 ((IoSame.of hio).trans io2) trivial

theorem own_upd {h' : Heap} {sl sl' : Slot} {a : Addr} {its : List Value} {n : Nat} {ws : List V} (ok : CxOk c d) (S : FSt c s.heap m fz ex fr) (hx : c.names[i]? = some x) (e : fr[i]? = some sl) (ho : sl.owned = true) (ha : m x = some (.ref a))
    (hsl : sl' = .own ws ∨ sl' = .io ws) (hs : Heap.SameBut a s.heap h') (hg : h'.get? a = some (listOf its.toArray n)) (hv : Vals c.fa fz ws its) : FSt c h' m fz ex (fr.set i sl') := by
  obtain ⟨vs, _, O⟩ := S.ownAt e ho hx ha
  obtain ⟨N2, D2⟩ := S.exN (some i)
  refine S.afterIo ok hx e ho ha (fun _ e => e) hsl (S.F.change hs O.ne O.new) (fun p hp => ?_) D2 ⟨⟨its, n, hg, hv⟩, O.ne, O.new, O.offF, O.offE⟩
  have hne : p.1 ≠ a := by
    rcases List.mem_append.mp hp with hp | hp
    · exact O.offF p hp
    · rcases List.mem_append.mp hp with hp | hp
      · obtain ⟨j, u, z, hj, eu, hu, hz', hm', _⟩ := mem_ownEnts hp
        exact S.apart j i u sl z x p.1 a (fun q => hj (by rw [q])) eu e hu ho hz' hx hm' ha
      · exact O.offE p hp
  exact ⟨(hs.2 p.1 hne).trans (N2 p hp).1, (N2 p hp).2⟩

theorem slot_own {sl : Slot} {vs : List V} (S : FSt c s.heap m fz ex fr) (hx : c.names[i]? = some x) (e : fr[i]? = some sl) (hsl : sl = .own vs ∨ sl = .io vs) :
    c.cs.names.lookup x = some .local ∧ ∃ a its n, m x = some (.ref a) ∧ s.heap.get? a = some (listOf (its : List Value).toArray n) ∧ Vals c.fa fz vs its := by
  obtain ⟨y, hy, O⟩ := S.sl i sl e
  rw [hx] at hy; cases hy
  rcases hsl with rfl | rfl
  · obtain ⟨hk, a, ha, O⟩ := O; obtain ⟨its, n, g, hv⟩ := O.get; exact ⟨hk, a, its, n, ha, g, hv⟩
  · obtain ⟨hk, a, ha, O⟩ := O; obtain ⟨its, n, g, hv⟩ := O.get; exact ⟨hk, a, its, n, ha, g, hv⟩

theorem onOwn_eq {o : Option Slot} {f : List V → Option (List V)} {sl' : Slot} (h : onOwn o f = some sl') : ∃ sl vs ws, o = some sl ∧ f vs = some ws ∧ ((sl = .own vs ∧ sl' = .own ws) ∨ (sl = .io vs ∧ sl' = .io ws)) := by
  unfold onOwn at h
  split at h
  · obtain ⟨ws, e, rfl⟩ := Option.map_eq_some_iff.mp h; exact ⟨_, _, ws, rfl, e, .inl ⟨rfl, rfl⟩⟩
  · obtain ⟨ws, e, rfl⟩ := Option.map_eq_some_iff.mp h; exact ⟨_, _, ws, rfl, e, .inr ⟨rfl, rfl⟩⟩
  · cases h
theorem io_own {sl sl' : Slot} {vs ws : List V} (e : fr[i]? = some sl) (hsl : (sl = .own vs ∧ sl' = .own ws) ∨ (sl = .io vs ∧ sl' = .io ws)) : KeepsIo fr (fr.set i sl') :=
  .set fun us e' => by rw [e] at e'; cases e'; rcases hsl with ⟨h, _⟩ | ⟨_, h⟩; · cases h
                       · exact ⟨ws, h⟩

theorem sok_seti {e' ix' : Expr} {p q pos : Pos} {v : V} {n : Int} {sl' : Slot} (ok : CxOk c d) (hx : c.names[i]? = some x) (hn : okName x = true) (he : VOk c Z e' fr v fr1) (hio1 : KeepsIo fr fr1) (hix : VOk c Z ix' fr1 (.int n) fr2) (hio2 : KeepsIo fr1 fr2)
    (h0 : ∃ sl vs, fr1[i]? = some sl ∧ (sl = .own vs ∨ sl = .io vs)) (hp : onOwn fr2[i]? (fun vs => setItem vs n v) = some sl') (hsw : ∀ t l, swapsWith e' t l c.env = pure false) :
    SOk c Z (exec (.Assign [.Subscript (.Name x p) ix' q] e' pos) c.env) fr .next (fr2.set i sl') := by
  intro m fz ex s Q S hz k
  refine wpAny_Assign_Subscript (he m fz ex s _ S hz fun vv fz1 h1 t1 s1 S1 v1 => ?_) (hsw _ _)
  obtain ⟨sl0, vs0, e0, hsl0⟩ := h0
  obtain ⟨hk, a, its0, n0, ha, g0, _⟩ := slot_own (s := { s with heap := h1, toks := t1 }) S1 hx e0 hsl0
  refine load_name ok S1 (.inl ⟨hk, ha⟩) hn (hix m fz1 ex _ _ S1 (fun q hq => s1 _ (hz q hq)) fun iv fz2 h2 t2 s2 S2 v2 => ?_)
  cases v2
  obtain ⟨sl, vs, ws, e2, hw, hsl⟩ := onOwn_eq hp
  obtain ⟨_, a', its, nn, ha', g, hv⟩ := slot_own (s := { s with heap := h2, toks := t2 }) S2 hx e2 (by rcases hsl with ⟨h, _⟩ | ⟨h, _⟩; exact .inl h; exact .inr h)
  rw [ha] at ha'; cases ha'
  unfold setItem at hw
  split at hw
  · rename_i hc
    cases hw
    have len := hv.length
    refine ki_setAt g hc.1 (by have := hc.2; unfold lenLim at this; omega) (by have := hc.2.1; simp; omega) ?_
    have hu := PySem.IsL.update (h := h2) (l := a) g (fun xs => xs.setIfInBounds n.toNat vv)
    have e3 : its.toArray.setIfInBounds n.toNat vv = (its.set n.toNat vv).toArray := by simp
    rw [e3] at hu
    have S3 := own_upd (s := { s with heap := h2, toks := t2 }) ok S2 hx e2 (by rcases hsl with ⟨rfl, _⟩ | ⟨rfl, _⟩ <;> rfl) ha (sl' := sl') (ws := vs.set n.toNat v) (by rcases hsl with ⟨_, h⟩ | ⟨_, h⟩; exact .inl h; exact .inr h) (Heap.SameBut.update h2 a _) hu (hv.set (v1.mono s2) _)
    exact k .next m fz2 _ _ (fun p hp => s2 p (s1 p hp)) S3 (IoSame.of ((hio1.trans hio2).trans (io_own e2 hsl))) trivial
  · cases hw

theorem sok_aug {op : BOp} {e' : Expr} {p pos : Pos} {a b n : Int} (ok : CxOk c d) (hx : c.names[i]? = some x) (hl : c.cs.names.lookup x = some .local) (ho : op = .add ∨ op = .sub ∨ op = .mod ∨ op = .shr ∨ op = .bor)
    (e0 : fr[i]? = some (.val (.int a))) (he : VOk c Z e' fr (.int b) fr1) (hio : KeepsIo fr fr1) (hb : binI op a b = some n) (hp : put fr1 i (.val (.int n)) = some fr2) :
    SOk c Z (exec (.AugAssign (.Name x p) op.op e' pos) c.env) fr .next fr2 := by
  intro m fz ex s Q S hz k
  obtain ⟨y, hy, vv, l, v0⟩ := S.sl i _ e0
  rw [hx] at hy; cases hy
  have hm : m x = some vv := by
    rcases l with ⟨_, h⟩ | ⟨h, _⟩
    · exact h
    · rw [hl] at h; rcases h with h | h <;> cases h
  cases v0 with | int _ t0 =>
  refine wpAny_AugAssign_Name (wpAny_loadName_local (env := c.env) ok.kind hl S.F.ns hm (he m fz ex s _ S hz fun bv fz1 h1 t1 s1 S1 v1 => ?_))
  cases v1
  refine augI_sound hb ho fun tk => store_sound (r := .val (.int n)) ok S1 hx hl hp (.int _ _) fun h2 _ S2 io2 => ?_
  exact k .next _ fz1 h2 _ s1 S2 ((IoSame.of hio).trans io2) trivial

theorem sok_app {e' : Expr} {p ap cp pos : Pos} {v : V} {sl' : Slot} (ok : CxOk c d) (hx : c.names[i]? = some x) (hn : okName x = true) (hline : (ap.endLine == cp.line) = true) (hst : starEach [e'] c.env = (false, eval e' c.env) :: starEach [] c.env) (he : VOk c Z e' fr v fr1) (hio : KeepsIo fr fr1)
    (h0 : ∃ sl vs, fr[i]? = some sl ∧ (sl = .own vs ∨ sl = .io vs)) (hp : onOwn fr1[i]? (fun vs => if vs.length ≤ lenLim then some (vs ++ [v]) else none) = some sl') :
    SOk c Z (exec (.Expr (.Call (.Attribute (.Name x p) (Str.ofString "append") ap) [e'] [] cp) pos) c.env) fr .next (fr1.set i sl') := by
  intro m fz ex s Q S hz k
  obtain ⟨sl0, vs0, e0, hsl0⟩ := h0
  obtain ⟨hk, a, its0, n0, ha, g0, _⟩ := slot_own S hx e0 hsl0
  refine wpAny_Expr_any (wpAny_Call_method rfl (by rw [hst]; rfl) hline PySem.F.plainAttrs_list PySem.F.slot_list_append PySem.F.type_list_append (load_name ok S (.inl ⟨hk, ha⟩) hn ⟨⟨_, g0, rfl⟩, fun b e => ?_, ?_⟩)) ?_ rfl
  · cases e; exact ⟨_, g0, rfl⟩
  · refine callWith_mach rfl hst rfl (spliced_more (he m fz ex s _ S hz fun vv fz1 h1 t1 s1 S1 v1 => spliced_none ?_) hst)
    obtain ⟨sl, vs, ws, e2, hw, hsl⟩ := onOwn_eq hp
    obtain ⟨_, a', its, nn, ha', g, hv⟩ := slot_own (s := { s with heap := h1, toks := t1 }) S1 hx e2 (by rcases hsl with ⟨h, _⟩ | ⟨h, _⟩; exact .inl h; exact .inr h)
    rw [ha] at ha'; cases ha'
    split at hw
    · rename_i hc
      cases hw
      have len := hv.length
      refine wpAny_list_append_plain (s := { s with heap := h1, toks := t1 }) ⟨nn, g⟩ (fun h2 hl2 hs2 => ?_) (by simp; unfold lenLim at hc; unfold sizeLine; omega)
      obtain ⟨n2, g2⟩ := hl2
      have e3 : its.toArray.push vv = (its ++ [vv]).toArray := by simp
      rw [e3] at g2
      have S3 := own_upd (s := { s with heap := h1, toks := t1 }) ok S1 hx e2 (by rcases hsl with ⟨rfl, _⟩ | ⟨rfl, _⟩ <;> rfl) ha (sl' := sl') (ws := vs ++ [v]) (by rcases hsl with ⟨_, h⟩ | ⟨_, h⟩; exact .inl h; exact .inr h) hs2 g2 (hv.append (.cons v1 .nil))
      exact k .next m fz1 _ _ s1 S3 (IoSame.of (hio.trans (io_own e2 hsl))) trivial
    · cases hw
  · show interactive c.env = false
    unfold interactive
    show (c.cs.kind == .module && _) = false
    rw [ok.kind]; rfl

theorem sok_rev {p ap cp pos : Pos} {sl' : Slot} (ok : CxOk c d) (hx : c.names[i]? = some x) (hn : okName x = true) (hline : (ap.endLine == cp.line) = true)
    (hp : onOwn fr[i]? (fun vs => if vs.length ≤ lenLim then some vs.reverse else none) = some sl') :
    SOk c Z (exec (.Expr (.Call (.Attribute (.Name x p) (Str.ofString "reverse") ap) [] [] cp) pos) c.env) fr .next (fr.set i sl') := by
  intro m fz ex s Q S hz k
  obtain ⟨sl, vs, ws, e2, hw, hsl⟩ := onOwn_eq hp
  obtain ⟨hk, a, its, nn, ha, g, hv⟩ := slot_own S hx e2 (by rcases hsl with ⟨h, _⟩ | ⟨h, _⟩; exact .inl h; exact .inr h)
  refine wpAny_Expr_any (wpAny_Call_method rfl rfl hline PySem.F.plainAttrs_list PySem.F.slot_list_reverse PySem.F.type_list_reverse (load_name ok S (.inl ⟨hk, ha⟩) hn ⟨⟨_, g, rfl⟩, fun b e => ?_, callWith_mach0 rfl ?_⟩)) ?_ rfl
  · cases e; exact ⟨_, g, rfl⟩
  · split at hw
    · rename_i hc
      cases hw
      have len := hv.length
      refine call_meets PySem.F.slot_list_reverse ⟨_, g, rfl⟩ PySem.F.entry_list_reverse (PySem.F.args_list_reverse_1 _) (AutoSeq1.list_reverse_list_0 a its.toArray nn (by simp; unfold lenLim at hc; unfold sizeLine; omega)) ⟨g, ?_⟩
      have hu : (s.heap.update a (Obj.mapSeq fun x => x.reverse)).get? a = some (listOf its.reverse.toArray nn) := by
        rw [Heap.get?_update_self _ g (by rw [mapSeq_reverse]; rfl), mapSeq_reverse]
      have S3 := own_upd ok S hx e2 (by rcases hsl with ⟨rfl, _⟩ | ⟨rfl, _⟩ <;> rfl) ha (sl' := sl') (ws := vs.reverse) (by rcases hsl with ⟨_, h⟩ | ⟨_, h⟩; exact .inl h; exact .inr h) (Heap.SameBut.update s.heap a _) hu hv.reverse
      exact k .next m fz _ _ (fun _ e => e) S3 (IoSame.of (io_own e2 hsl)) trivial
    · cases hw
  · show interactive c.env = false
    unfold interactive
    show (c.cs.kind == .module && _) = false
    rw [ok.kind]; rfl

theorem sok_ex {e' : Expr} {pos : Pos} (ok : CxOk c d) (he : VOk c Z e' fr .none fr1) (hio : KeepsIo fr fr1) (hsw : ∀ t l, swapsWith e' t l c.env = pure false) : SOk c Z (exec (.Expr e' pos) c.env) fr .next fr1 := by
  intro m fz ex s Q S hz k
  refine wpAny_Expr_any (he m fz ex s _ S hz fun vv fz1 h1 t1 s1 S1 v1 => k .next m fz1 h1 t1 s1 S1 (IoSame.of hio) trivial) ?_ (hsw _ _)
  show interactive c.env = false
  unfold interactive
  show (c.cs.kind == .module && _) = false
  rw [ok.kind]; rfl

theorem sok_ret {e' : Expr} {pos : Pos} {v : V} (he : VOk c Z e' fr v fr1) (hio : KeepsIo fr fr1) : SOk c Z (exec (.Return (some e') pos) c.env) fr (.ret v) fr1 := by
  intro m fz ex s Q S hz k
  exact wpAny_Return_some (he m fz ex s _ S hz fun vv fz1 h1 t1 s1 S1 v1 => k (.ret vv) m fz1 h1 t1 s1 S1 (IoSame.of hio) v1)
theorem sok_cont {pos : Pos} : SOk c Z (exec (.Continue pos) c.env) fr .cont fr := by
  intro m fz ex s Q S hz k
  exact wpAny_Continue (k .cont m fz s.heap s.toks (fun _ e => e) S (IoSame.of (.refl _)) trivial)
theorem sok_nil : SOk c Z (execs [] c.env) fr .next fr := by
  intro m fz ex s Q S hz k
  exact wpAny_execs_nil (k .next m fz s.heap s.toks (fun _ e => e) S (IoSame.of (.refl _)) trivial)
theorem sok_cons {st : Stmt} {rest : List Stmt} {fl : Fl} (h : SOk c Z (exec st c.env) fr .next fr1) (hr : SOk c Z (execs rest c.env) fr1 fl fr2) : SOk c Z (execs (st :: rest) c.env) fr fl fr2 := by
  intro m fz ex s Q S hz k
  refine wpAny_execs_cons (h m fz ex s _ S hz fun flv m1 fz1 h1 t1 s1 S1 io1 f1 => ?_)
  cases flv <;> simp only [FlV] at f1
  exact hr m1 fz1 ex _ _ S1 (fun q hq => s1 _ (hz q hq)) fun flv m2 fz2 h2 t2 s2 S2 io2 f2 => k flv m2 fz2 h2 t2 (fun p hp => s2 p (s1 p hp)) S2 (io1.trans io2) f2
theorem sok_stop {st : Stmt} {rest : List Stmt} {fl : Fl} (h : SOk c Z (exec st c.env) fr fl fr1) (hf : fl ≠ .next) : SOk c Z (execs (st :: rest) c.env) fr fl fr1 := by
  intro m fz ex s Q S hz k
  refine wpAny_execs_cons (h m fz ex s _ S hz fun flv m1 fz1 h1 t1 s1 S1 io1 f1 => ?_)
  have := k flv m1 fz1 h1 t1 s1 S1 io1 f1
  cases flv <;> first | exact this | (cases fl <;> simp only [FlV] at f1; exact absurd rfl hf)
theorem sok_ite {b' : Expr} {s' t' : List Stmt} {pos : Pos} {b : Bool} {fl : Fl} (hb : TOk c Z b' fr b fr1) (hio : KeepsIo fr fr1) (h : SOk c Z (if b then execs s' c.env else execs t' c.env) fr1 fl fr2) : SOk c Z (exec (.If b' s' t' pos) c.env) fr fl fr2 := by
  intro m fz ex s Q S hz k
  refine wpAny_If (hb m fz ex s _ S hz fun fz1 h1 t1 s1 S1 => ?_)
  have go := h m fz1 ex { s with heap := h1, toks := t1 } Q S1 (fun q hq => s1 _ (hz q hq)) fun flv m2 fz2 h2 t2 s2 S2 io2 f2 => k flv m2 fz2 h2 t2 (fun p hp => s2 p (s1 p hp)) S2 ((IoSame.of hio).trans io2) f2
  cases b <;> exact go
end
end Mine
end PSnd6

section PSnd7
set_option maxRecDepth 100000
open PySem PySem.W PySem.Spec PySem.Calls PyProof.Rows
namespace Mine
section
variable {c : Cx} {d : Nat} {Z : Led} {m : Str → Option Value} {fz fz' ex : Led} {fr fr' fr1 fr2 fr3 : Frame} {s : Shared} {x : Str} {i : Nat}

theorem FSt.exAdd {h : Heap} {a : Addr} {o : Obj} (S : FSt c h m fz ex fr) (hg : h.get? a = some o) (hL : a ≠ c.L) (hn : c.h₀.get? a = none) (offF : ∀ q ∈ fz, q.1 ≠ a) (off : OffOwn c m fr a) : FSt c h m fz ((a, o) :: ex) fr := by
  refine ⟨S.F, fun p hp => ?_, fun q hq r hr => ?_, fun i s e => ?_, S.apart⟩
  · rcases List.mem_append.mp hp with hp | hp
    · exact S.N p (List.mem_append_left _ hp)
    · rcases List.mem_cons.mp hp with rfl | hp
      · exact ⟨hg, hL, hn⟩
      · exact S.N p (List.mem_append_right _ hp)
  · rcases List.mem_cons.mp hr with rfl | hr
    · exact offF q hq
    · exact S.dis q hq r hr
  · obtain ⟨x, hx, y⟩ := S.sl i s e
    refine ⟨x, hx, ?_⟩
    have up : ∀ {b : Addr} {us : List V}, b ≠ a → OwnAt c.fa c.h₀ c.L h fz ex b us → OwnAt c.fa c.h₀ c.L h fz ((a, o) :: ex) b us := fun hb O => ⟨O.get, O.ne, O.new, O.offF, fun q hq => by
      rcases List.mem_cons.mp hq with rfl | hq
      · exact Ne.symm hb
      · exact O.offE q hq⟩
    cases s with
    | unset => trivial
    | val v => exact y
    | own vs => obtain ⟨k, b, e', O⟩ := y; exact ⟨k, b, e', up (off i _ x b e rfl hx e') O⟩
    | io vs => obtain ⟨k, b, e', O⟩ := y; exact ⟨k, b, e', up (off i _ x b e rfl hx e') O⟩
theorem OwnAt.exSub {fa : Nat → Addr} {h₀ : Heap} {L : Addr} {h : Heap} {ex' : Led} {a : Addr} {vs : List V} (O : OwnAt fa h₀ L h fz ex a vs) (hs : ∀ p ∈ ex', p ∈ ex) : OwnAt fa h₀ L h fz ex' a vs :=
  ⟨O.get, O.ne, O.new, O.offF, fun q hq => O.offE q (hs q hq)⟩
theorem FSt.exSub {h : Heap} {ex' : Led} (S : FSt c h m fz ex fr) (hs : ∀ p ∈ ex', p ∈ ex) : FSt c h m fz ex' fr := by
  refine ⟨S.F, fun p hp => ?_, fun q hq r hr => S.dis q hq r (hs r hr), fun i s e => ?_, S.apart⟩
  · rcases List.mem_append.mp hp with hp | hp
    · exact S.N p (List.mem_append_left _ hp)
    · exact S.N p (List.mem_append_right _ (hs p hp))
  · obtain ⟨x, hx, y⟩ := S.sl i s e
    refine ⟨x, hx, ?_⟩
    cases s with
    | unset => trivial
    | val v => exact y
    | own vs => obtain ⟨k, b, e', O⟩ := y; exact ⟨k, b, e', O.exSub hs⟩
    | io vs => obtain ⟨k, b, e', O⟩ := y; exact ⟨k, b, e', O.exSub hs⟩
theorem FSt.offEx {h : Heap} {a : Addr} {o : Obj} (S : FSt c h m fz ex fr) (hm : (a, o) ∈ ex) : OffOwn c m fr a := fun i s x b e ho hx hb => by
  obtain ⟨vs, _, O⟩ := S.ownAt e ho hx hb
  exact Ne.symm (O.offE _ hm)
theorem FSt.keepOff {h h' : Heap} {wr : List Addr} (S : FSt c h m fz ex fr) (hk : ∀ b o, b ∉ wr → h.get? b = some o → h'.get? b = some o) (hL : c.L ∉ wr) (hn : ∀ b ∈ wr, c.h₀.get? b = none) (hF : ∀ q ∈ fz, q.1 ∉ wr) (hE : ∀ q ∈ ex, q.1 ∉ wr) (hO : ∀ b ∈ wr, OffOwn c m fr b) : FSt c h' m fz ex fr := by
  have old : ∀ b o, c.h₀.get? b = some o → b ∉ wr := fun b o e hb => by rw [hn b hb] at e; cases e
  obtain ⟨oL, a1, a2, hoL, a3⟩ := S.F.ns
  refine ⟨⟨⟨oL, a1, a2, hk _ _ hL hoL, a3⟩, fun b o e => hk b o (old b o e) (S.F.keep b o e), S.F.above⟩, fun p hp => ⟨hk _ _ ?_ (S.N p hp).1, (S.N p hp).2⟩, S.dis, fun i s e => ?_, S.apart⟩
  · rcases List.mem_append.mp hp with hp | hp
    · exact hF p hp
    · exact hE p hp
  · obtain ⟨x, hx, y⟩ := S.sl i s e
    refine ⟨x, hx, ?_⟩
    cases s with
    | unset => trivial
    | val v => exact y
    | own vs => obtain ⟨k, b, e', O⟩ := y; exact ⟨k, b, e', O.keep fun o => hk b o fun hb => (hO b hb) i _ x b e rfl hx e' rfl⟩
    | io vs => obtain ⟨k, b, e', O⟩ := y; exact ⟨k, b, e', O.keep fun o => hk b o fun hb => (hO b hb) i _ x b e rfl hx e' rfl⟩

theorem FSt.exAddAll {h : Heap} (its : Led) (S : FSt c h m fz ex fr) (hg : ∀ q ∈ its, h.get? q.1 = some q.2) (hL : ∀ q ∈ its, q.1 ≠ c.L) (hn : ∀ q ∈ its, c.h₀.get? q.1 = none) (offF : ∀ q ∈ its, ∀ r ∈ fz, r.1 ≠ q.1) (off : ∀ q ∈ its, OffOwn c m fr q.1) : FSt c h m fz (its ++ ex) fr := by
  induction its with
  | nil => exact S
  | cons q r ih =>
    have := ih (fun q hq => hg q (.tail _ hq)) (fun q hq => hL q (.tail _ hq)) (fun q hq => hn q (.tail _ hq)) (fun q hq => offF q (.tail _ hq)) fun q hq => off q (.tail _ hq)
    exact this.exAdd (hg q (.head _)) (hL q (.head _)) (hn q (.head _)) (offF q (.head _)) (off q (.head _))

theorem FSt.newIts {h h' : Heap} {wr : List Addr} {its : Led} (S : FSt c h m fz (its ++ ex) fr) (hw : its.map (·.1) = wr) (hex : ∀ q ∈ ex, q.1 ∉ wr) (hk : ∀ b o, b ∉ wr → h.get? b = some o → h'.get? b = some o) (alive : ∀ b ∈ wr, ∃ o, h'.get? b = some o) :
    ∃ its' : Led, its'.map (·.1) = wr ∧ FSt c h' m fz (its' ++ ex) fr := by
  have mem : ∀ b ∈ wr, ∃ o, (b, o) ∈ its := fun b hb => by
    rw [← hw] at hb
    obtain ⟨p, hp, rfl⟩ := List.mem_map.mp hb
    exact ⟨p.2, hp⟩
  have hL : c.L ∉ wr := fun hb => by
    obtain ⟨o, hm⟩ := mem _ hb
    exact (S.N (_, o) (List.mem_append_right _ (List.mem_append_left _ hm))).2.1 rfl
  have hn : ∀ b ∈ wr, c.h₀.get? b = none := fun b hb => by
    obtain ⟨o, hm⟩ := mem _ hb
    exact (S.N (_, o) (List.mem_append_right _ (List.mem_append_left _ hm))).2.2
  have hF : ∀ q ∈ fz, q.1 ∉ wr := fun q hq hb => by
    obtain ⟨o, hm⟩ := mem _ hb
    exact S.dis q hq _ (List.mem_append_left _ hm) rfl
  have hO : ∀ b ∈ wr, OffOwn c m fr b := fun b hb => by
    obtain ⟨o, hm⟩ := mem _ hb
    exact S.offEx (List.mem_append_left _ hm)
  have S1 := (S.exSub (ex' := ex) fun p hp => List.mem_append_right _ hp).keepOff hk hL hn hF hex hO
  have : ∀ l : List Addr, (∀ b ∈ l, b ∈ wr) → ∃ its' : Led, its'.map (·.1) = l ∧ ∀ q ∈ its', h'.get? q.1 = some q.2 := by
    intro l
    induction l with
    | nil => intro _; exact ⟨[], rfl, fun _ hq => nomatch hq⟩
    | cons b r ih =>
      intro hl
      obtain ⟨o, ho⟩ := alive b (hl b (.head _))
      obtain ⟨i', h1, h2⟩ := ih fun b hb => hl b (.tail _ hb)
      exact ⟨(b, o) :: i', by simp [h1], fun q hq => by rcases List.mem_cons.mp hq with rfl | hq; exact ho; exact h2 q hq⟩
  obtain ⟨its', h1, h2⟩ := this wr fun _ h => h
  have inw : ∀ q ∈ its', q.1 ∈ wr := fun q hq => h1 ▸ List.mem_map_of_mem hq
  exact ⟨its', h1, S1.exAddAll its' h2 (fun q hq e => hL (e ▸ inw q hq)) (fun q hq => hn _ (inw q hq)) (fun q hq r hr e => hF r hr (e ▸ inw q hq)) fun q hq => hO _ (inw q hq)⟩

noncomputable def FoI (c : Cx) (m : Str → Option Value) (fz ex : Led) (fr fr' : Frame) (fl : Fl) (s : Shared) (wr : List Addr) (Stt : Nat → Heap → Prop) (vs : List V) (g : V → Frame → Option (Fl × Frame)) (n : Nat) (s' : Shared) : Prop :=
  ∀ G : Prop, (∀ h tk m' fz₁ its f j, s' = { s with heap := h, toks := tk } → (∀ p ∈ fz, p ∈ fz₁) → its.map (·.1) = wr → FSt c h m' fz₁ (its ++ ex) f → IoSame c fr f m m' → Stt j h → j ≤ vs.length → n = vs.length + 1 - j → forI g (vs.drop j) f = some (fl, fr') → G) → G
theorem for_core {C : CallF} {bd : ISs} {body : List Stmt} {tgt : Expr} {I : Addr} {wr keep : List Addr} {vs : List V} {Stt : Nat → Heap → Prop} {asg : V → Frame → Option Frame} {fl : Fl} {R : Result → Shared → Prop}
    (alive : ∀ j h, Stt j h → ∀ b ∈ wr, ∃ o, h.get? b = some o)
    (frame : ∀ j h h', Stt j h → (∀ b, b ∈ wr ∨ b ∈ keep → ∀ o, h.get? b = some o → h'.get? b = some o) → Stt j h')
    (hkeep : ∀ b ∈ keep, ∃ o, (b, o) ∈ fz)
    (turn : ∀ j v (m : Str → Option Value) (fz₁ : Led) its f f1 (s₁ : Shared) (Q : Unit → Shared → Prop), vs[j]? = some v → Stt j s₁.heap → (∀ q ∈ fz, q ∈ fz₁) → its.map (·.1) = wr → FSt c s₁.heap m fz₁ (its ++ ex) f → asg v f = some f1 →
      (∀ h₂ tk₂ m₂ its₂, its₂.map (·.1) = wr → Stt (j + 1) h₂ → FSt c h₂ m₂ fz₁ (its₂ ++ ex) f1 → IoSame c f f1 m m₂ → Q () { s₁ with heap := h₂, toks := tk₂ }) →
      wpAny (model c.prog c.w) c.A (pyNext (.ref I)) (fun r s₂ => ∃ y, r = some y ∧ wpAny (model c.prog c.w) c.A (letOwnedTupleGo tgt (.ref I) y) (fun _ s₂' => wpAny (model c.prog c.w) c.A (assign tgt c.env y) Q NoE s₂') NoE s₂) NoE s₁)
    (done : ∀ (m : Str → Option Value) (fz₁ : Led) its f (s₁ : Shared) (Q : Shared → Prop), Stt vs.length s₁.heap → its.map (·.1) = wr → FSt c s₁.heap m fz₁ (its ++ ex) f → (∀ h₂ tk₂, FSt c h₂ m fz₁ ex f → Q { s₁ with heap := h₂, toks := tk₂ }) →
      wpAny (model c.prog c.w) c.A (pyNext (.ref I)) (fun r s₂ => r = none ∧ Q s₂) NoE s₁)
    (hz : ∀ q ∈ Z, q ∈ fz) (hbody : ∀ f fl f1, xSs C bd f = some (fl, f1) → SOk c Z (execs body c.env) f fl f1)
    {its : Led} (hw : its.map (·.1) = wr) (S : FSt c s.heap m fz (its ++ ex) fr) (st : Stt 0 s.heap)
    (hf : forI (fun v f => match asg v f with | none => none | some f1 => xSs C bd f1) vs fr = some (fl, fr'))
    (k : ∀ flv m' fz' h' tk', (∀ p ∈ fz, p ∈ fz') → FSt c h' m' fz' ex fr' → IoSame c fr fr' m m' → FlV c.fa fz' fl flv → R (.ok flv) { s with heap := h', toks := tk' }) :
    codeAny (model c.prog c.w) c.A (.forLoop tgt (.ref I) body [] c.env) R s := by
  refine codeAny_forLoop_any (FoI c m fz ex fr fr' fl s wr Stt vs (fun v f => match asg v f with | none => none | some f1 => xSs C bd f1)) ?_ (vs.length + 1)
    (fun _ KK => KK s.heap s.toks m fz its fr 0 rfl (fun _ e => e) hw S (IoSame.of (.refl _)) st (Nat.zero_le _) rfl (by simpa using hf))
  intro n s' hI
  refine hI _ fun h tk m' fz₁ its₁ f j e hs hw₁ S₁ io₁ st₁ hj e2 hf₁ => ?_
  subst e e2
  by_cases hlt : j < vs.length
  · rw [List.drop_eq_getElem_cons hlt] at hf₁
    simp only [fo1, fo2] at hf₁
    cases ha : asg vs[j] f with
    | none => rw [ha] at hf₁; simp at hf₁
    | some f1 =>
      rw [ha] at hf₁
      dsimp only at hf₁
      refine wpAny_mono (turn j vs[j] m' fz₁ its₁ f f1 { s with heap := h, toks := tk } (fun _ s₂ => wpAny (model c.prog c.w) c.A (execs body c.env) (fun fw s₃ => match fw with
          | .next | .cont => ∃ n', n' < vs.length + 1 - j ∧ FoI c m fz ex fr fr' fl s wr Stt vs (fun v f => match asg v f with | none => none | some f1 => xSs C bd f1) n' s₃
          | .brk => R (.ok .next) s₃
          | .ret v => R (.ok (.ret v)) s₃) NoE s₂) (by simp [hlt]) st₁ hs hw₁ S₁ ha fun h₂ tk₂ m₂ its₂ hw₂ st₂ S₂ io₂ => ?_) (fun r s₂ hr => ?_) (fun _ _ e => False.elim e)
      · have back : ∀ {fw : Fl} {f2 : Frame}, xSs C bd f1 = some (fw, f2) → SOk c Z (execs body c.env) f1 fw f2 := fun e => hbody _ _ _ e
        have stt : ∀ {h₃ : Heap} {m₃ : Str → Option Value} {fz₃ : Led} {f2 : Frame}, (∀ p ∈ fz₁, p ∈ fz₃) → FSt c h₃ m₃ fz₃ (its₂ ++ ex) f2 → Stt (j + 1) h₃ := fun {h₃ m₃ fz₃ f2} hs₃ S₃ => by
          refine frame _ _ _ st₂ fun b hb o e => ?_
          rcases hb with hb | hb
          · rw [← hw₂] at hb
            obtain ⟨p, hp, rfl⟩ := List.mem_map.mp hb
            have e1 := S₂.ofEx (a := p.1) (o := p.2) (List.mem_append_left _ hp)
            have e2 := S₃.ofEx (a := p.1) (o := p.2) (List.mem_append_left _ hp)
            rw [e] at e1; cases e1; exact e2
          · obtain ⟨o', hm⟩ := hkeep b hb
            have e1 := S₂.ofFz (hs _ hm)
            have e2 := S₃.ofFz (hs₃ _ (hs _ hm))
            rw [e] at e1; cases e1; exact e2
        cases hb : xSs C bd f1 with
        | none => rw [hb] at hf₁; cases hf₁
        | some p =>
          obtain ⟨fw, f2⟩ := p
          rw [hb] at hf₁
          refine back hb m₂ fz₁ (its₂ ++ ex) { s with heap := h₂, toks := tk₂ } _ S₂ (fun q hq => hs _ (hz q hq)) fun flv m₃ fz₃ h₃ t₃ s₃ S₃ io₃ f₃ => ?_
          cases fw with
          | ret v =>
            simp only [Option.some.injEq, Prod.mk.injEq] at hf₁
            obtain ⟨rfl, rfl⟩ := hf₁
            cases flv <;> simp only [FlV] at f₃
            exact k (.ret _) m₃ fz₃ h₃ t₃ (fun p hp => s₃ p (hs p hp)) (S₃.exSub fun p hp => List.mem_append_right _ hp) ((io₁.trans io₂).trans io₃) f₃
          | next =>
            cases flv <;> simp only [FlV] at f₃
            exact ⟨_, sdec hlt, fun _ KK => KK h₃ t₃ m₃ fz₃ its₂ f2 (j + 1) rfl (fun p hp => s₃ p (hs p hp)) hw₂ S₃ ((io₁.trans io₂).trans io₃) (stt s₃ S₃) hlt rfl hf₁⟩
          | cont =>
            cases flv <;> simp only [FlV] at f₃
            exact ⟨_, sdec hlt, fun _ KK => KK h₃ t₃ m₃ fz₃ its₂ f2 (j + 1) rfl (fun p hp => s₃ p (hs p hp)) hw₂ S₃ ((io₁.trans io₂).trans io₃) (stt s₃ S₃) hlt rfl hf₁⟩
      · obtain ⟨y, rfl, hy⟩ := hr
        exact wpAny_mono hy (fun _ s₃ h₃ => wpAny_mono h₃ (fun _ s₄ h₄ => wpAny_mono h₄ (fun _ _ q => q) fun _ _ e => False.elim e) fun _ _ e => False.elim e) fun _ _ e => False.elim e
  · have hjn : j = vs.length := by omega
    subst hjn
    rw [List.drop_length] at hf₁
    simp only [fo1, fo2, Option.some.injEq, Prod.mk.injEq] at hf₁
    obtain ⟨rfl, rfl⟩ := hf₁
    refine wpAny_mono (done m' fz₁ its₁ f { s with heap := h, toks := tk } (fun s₂ => R (.ok .next) s₂) st₁ hw₁ S₁ fun h₂ tk₂ S₂ => k .next m' fz₁ h₂ tk₂ hs S₂ io₁ trivial) (fun r s₂ hr => ?_) fun _ _ e => False.elim e
    obtain ⟨rfl, q⟩ := hr
    exact wpAny_execs_nil q
end
end Mine
end PSnd7

section PSnd8
set_option maxRecDepth 100000
open PySem PySem.W PySem.Spec PySem.Calls PyProof.Rows
namespace Mine

noncomputable def R.isFresh : R → Bool
  | .fresh _ => true
  | .val _ => false

noncomputable def Apart (p q : Value × R) : Prop := p.2.isFresh = true → q.2.isFresh = true → p.1 ≠ q.1
theorem Apart.symm {p q : Value × R} (h : Apart p q) : Apart q p := fun a b => Ne.symm (h b a)
structure RVs (c : Cx) (h : Heap) (m : Str → Option Value) (fz ex : Led) (fr : Frame) (ps : List (Value × R)) : Prop where
  rv : ∀ p ∈ ps, RV c h m fz ex fr p.1 p.2
  ap : ps.Pairwise Apart

inductive Acts (c : Cx) : List Nat → List (Value → Sem Unit) → Prop
  | nil : Acts c [] []
  | cons {i : Nat} {x : Str} {is : List Nat} {act : Value → Sem Unit} {acts : List (Value → Sem Unit)} (hx : c.names[i]? = some x) (hl : c.cs.names.lookup x = some .local)
      (ha : ∀ (v : Value) (Q : Unit → Shared → Prop) (s : Shared), wpAny (model c.prog c.w) c.A (storeName c.env x v) Q NoE s → wpAny (model c.prog c.w) c.A (act v) Q NoE s) (hr : Acts c is acts) : Acts c (i :: is) (act :: acts)

section
variable {c : Cx} {d : Nat} {Z : Led} {m : Str → Option Value} {fz fz' ex : Led} {fr fr' fr1 fr2 fr3 : Frame} {s : Shared} {x : Str} {i : Nat}

theorem assign_sound (ok : CxOk c d) {is : List Nat} {acts : List (Value → Sem Unit)} (hA : Acts c is acts) : ∀ {ps : List (Value × R)} {fr fr' : Frame} {m : Str → Option Value} {s : Shared} {Q : Unit → Shared → Prop}, putAll is (ps.map (·.2.slot)) fr = some fr' → FSt c s.heap m fz ex fr → RVs c s.heap m fz ex fr ps →
    (∀ h' tk' m', (∀ b o, b ≠ c.L → s.heap.get? b = some o → h'.get? b = some o) → FSt c h' m' fz ex fr' → IoSame c fr fr' m m' → Q () { s with heap := h', toks := tk' }) → wpAny (model c.prog c.w) c.A (assignInOrder acts (ps.map (·.1))) Q NoE s := by
  induction hA with
  | nil =>
    intro ps fr fr' m s Q hp S R k
    cases ps with
    | nil =>
      simp only [pa1, pa2, pa3, pa4, List.map_nil, Option.some.injEq] at hp
      subst hp
      exact wpAny_pure (k s.heap s.toks m (fun _ _ _ e => e) S (IoSame.of (.refl _)))
    | cons p ps => simp [pa1, pa2, pa3, pa4] at hp
  | @cons i x is act acts hx hl ha hr ih =>
    intro ps fr fr' m s Q hp S R k
    cases ps with
    | nil => simp [pa1, pa2, pa3, pa4] at hp
    | cons p ps =>
      simp only [pa1, pa2, pa3, pa4, List.map_cons] at hp
      split at hp
      · cases hp
      · rename_i f1 hp1
        show wpAny _ _ (do holding (ps.map (·.1)) (act p.1); assignInOrder acts (ps.map (·.1))) _ _ _
        refine wpAny_bind (wpAny_holding (ha _ _ _ (store_sound ok S hx hl hp1 (R.rv p (.head _)) fun h1 hs1 S1 io1 => ?_)))
        obtain ⟨t0, e0, hne, hf1⟩ := put_eq hp1
        have hi : i < fr.length := (List.getElem?_eq_some_iff.mp e0).1
        refine ih hp S1 ⟨fun q hq => ?_, (List.pairwise_cons.mp R.ap).2⟩ fun h2 t2 m2 hk2 S2 io2 => k h2 t2 m2 (fun b o hb e => hk2 b o hb ((hs1.2 b hb).trans e)) S2 (io1.trans io2)
        have hq' := R.rv q (.tail _ hq)
        have hap := (List.pairwise_cons.mp R.ap).1 q hq
        obtain ⟨qv, qr⟩ := q
        cases qr with
        | val v => exact hq'
        | fresh vs =>
          obtain ⟨a, e, O, off⟩ := hq'
          refine ⟨a, e, O.keep fun o e => (hs1.2 a O.ne).trans e, fun j t y b et ht hy hb => ?_⟩
          subst hf1
          by_cases hj : i = j
          · subst hj
            rw [List.getElem?_set_self hi] at et
            cases et
            rw [hx] at hy; cases hy
            simp only [if_true, Option.some.injEq] at hb
            have hfp : p.2.isFresh = true := by
              obtain ⟨pv, pr⟩ := p
              cases pr with
              | val v => cases ht
              | fresh _ => rfl
            have := hap hfp rfl
            dsimp only at this e
            rw [hb, e] at this
            exact fun h => this (by rw [h])
          · rw [List.getElem?_set_ne hj] at et
            have hyx : y ≠ x := fun e => names_inj ok hx hy hj e.symm
            exact off j t y b et ht hy (by simpa [hyx] using hb)

theorem acts_of {is : List Nat} {xs : List Expr} (h : TNs c.cs c.names is xs) : Acts c is ((assignEach xs c.env).map (·.2)) := by
  induction h with
  | nil => exact .nil
  | cons hx hl hr ih => exact .cons hx hl (fun v Q s h => assign_Name h) ih
theorem TNs.len {is : List Nat} {xs : List Expr} (h : TNs c.cs c.names is xs) : (assignEach xs c.env).length = is.length ∧ (assignEach xs c.env).findIdx? (·.1) = none := by
  induction h with
  | nil => exact ⟨rfl, rfl⟩
  | @cons i is x p xs hx hl hr ih =>
    refine ⟨by show (assignEach xs c.env).length + 1 = _; rw [ih.1]; rfl, ?_⟩
    show List.findIdx? _ ((false, assign (.Name x p) c.env) :: assignEach xs c.env) = none
    rw [List.findIdx?_cons, ih.2]; rfl

noncomputable def LROk (c : Cx) (Z : Led) (es' : List Expr) (fr : Frame) (rs : List R) (fr' : Frame) : Prop :=
  ∀ (m : Str → Option Value) (fz ex : Led) (s : Shared) (Q : List Value → Shared → Prop) (pos : Pos), FSt c s.heap m fz ex fr → (∀ q ∈ Z, q ∈ fz) →
    (∀ ps fz' h' tk', ps.map (·.2) = rs → (∀ p ∈ fz, p ∈ fz') → FSt c h' m fz' ex fr' → RVs c h' m fz' ex fr' ps → Q (ps.map (·.1)) { s with heap := h', toks := tk' }) → wpAny (model c.prog c.w) c.A (spliced (backTo pos (starEach es' c.env))) Q NoE s

theorem RV.exSub {h : Heap} {ex' : Led} {r : R} {vv : Value} (hr : RV c h m fz ex fr vv r) (hs : ∀ p ∈ ex', p ∈ ex) : RV c h m fz ex' fr vv r := by
  cases r with
  | val v => exact hr
  | fresh vs => obtain ⟨a, e, O, off⟩ := hr; exact ⟨a, e, O.exSub hs, off⟩

theorem lrok_nil : LROk c Z [] fr [] fr := fun m fz ex s Q pos S hz k => spliced_none (k [] fz s.heap _ rfl (fun _ e => e) S ⟨fun _ hp => (nomatch hp), .nil⟩)
theorem lrok_cons {e' : Expr} {es' : List Expr} {r : R} {rs : List R} (he : EOk c Z e' fr r fr1) (hst : starEach (e' :: es') c.env = (false, eval e' c.env) :: starEach es' c.env) (hr : LROk c Z es' fr1 rs fr2) : LROk c Z (e' :: es') fr (r :: rs) fr2 := by
  intro m fz ex s Q pos S hz k
  refine spliced_more (he m fz ex s _ S hz fun vv fz1 h1 t1 s1 S1 r1 => ?_) hst
  have hz1 : ∀ q ∈ Z, q ∈ fz1 := fun q hq => s1 _ (hz q hq)
  cases r with
  | val v =>
    refine hr m fz1 ex _ _ pos S1 hz1 fun ps fz2 h2 t2 e2 s2 S2 R2 => k ((vv, .val v) :: ps) fz2 h2 t2 (by simp [e2]) (fun p hp => s2 p (s1 p hp)) S2 ⟨fun p hp => ?_, List.pairwise_cons.mpr ⟨fun q hq h => (by cases h), R2.ap⟩⟩
    rcases List.mem_cons.mp hp with rfl | hp
    · exact Val.mono s2 r1
    · exact R2.rv p hp
  | fresh vs =>
    obtain ⟨a, rfl, O, off⟩ := r1
    obtain ⟨its, n, eg, hv⟩ := O.get
    have S1' := S1.exAdd eg O.ne O.new O.offF off
    refine hr m fz1 _ { s with heap := h1, toks := t1 } _ pos S1' hz1 fun ps fz2 h2 t2 e2 s2 S2 R2 => k ((.ref a, .fresh vs) :: ps) fz2 h2 t2 (by simp [e2]) (fun p hp => s2 p (s1 p hp)) (S2.exSub fun p hp => .tail _ hp) ⟨fun p hp => ?_, List.pairwise_cons.mpr ⟨fun q hq _ hq2 => ?_, R2.ap⟩⟩
    · rcases List.mem_cons.mp hp with rfl | hp
      · exact ⟨a, rfl, ⟨⟨its, n, S2.ofEx (.head _), hv.mono s2⟩, O.ne, O.new, fun q hq => S2.dis q hq _ (.head _), O.offE⟩, S2.offEx (.head _)⟩
      · exact (R2.rv p hp).exSub fun p hp => .tail _ hp
    · have := R2.rv q hq
      obtain ⟨qv, qr⟩ := q
      cases qr with
      | val v => cases hq2
      | fresh us =>
        obtain ⟨b, rfl, O2, _⟩ := this
        exact fun e => O2.offE _ (.head _) (Value.ref.inj e)

theorem RVs.keep {h h' : Heap} {ps : List (Value × R)} (R : RVs c h m fz ex fr ps) (hk : ∀ b o, h.get? b = some o → h'.get? b = some o) : RVs c h' m fz ex fr ps := by
  refine ⟨fun p hp => ?_, R.ap⟩
  have := R.rv p hp
  obtain ⟨v, r⟩ := p
  cases r with
  | val v => exact this
  | fresh vs => obtain ⟨a, e, O, off⟩ := this; exact ⟨a, e, O.keep fun o => hk a o, off⟩
theorem RVs.reverse {h : Heap} {ps : List (Value × R)} (R : RVs c h m fz ex fr ps) : RVs c h m fz ex fr ps.reverse :=
  ⟨fun p hp => R.rv p (List.mem_reverse.mp hp), List.pairwise_reverse.mpr (R.ap.imp fun h => h.symm)⟩

theorem up_ext {h h' : Heap} (hx : Heap.ExtBut h.objs.size h h') : ∀ b o, h.get? b = some o → h'.get? b = some o := fun b o e => hx b o (Nat.ne_of_lt (Heap.lt_size e)) e

theorem acts_names {is : List Nat} {ns : List Str} (ok : CxOk c d) {xs : List Expr} (hx : TNs c.cs c.names is xs) (hn : is.map (fun i => c.names[i]?) = ns.map some) : Acts c is (ns.map fun n => bindName c.env n) ∧ is.length = ns.length := by
  induction hx generalizing ns with
  | nil =>
    cases ns with
    | nil => exact ⟨.nil, rfl⟩
    | cons => simp at hn
  | @cons i is x p xs hx hl hr ih =>
    cases ns with
    | nil => simp at hn
    | cons n ns =>
      simp only [List.map_cons, List.cons.injEq] at hn
      rw [hx] at hn
      cases hn.1
      obtain ⟨a, b⟩ := ih hn.2
      exact ⟨.cons hx hl (fun v Q s h => bindName_ h) a, by simp [b]⟩
theorem Acts.append {is js : List Nat} {a b : List (Value → Sem Unit)} (h : Acts c is a) (k : Acts c js b) : Acts c (is ++ js) (a ++ b) := by
  induction h with
  | nil => exact k
  | cons hx hl ha hr ih => exact .cons hx hl ha ih
theorem Acts.reverse {is : List Nat} {a : List (Value → Sem Unit)} (h : Acts c is a) : Acts c is.reverse a.reverse := by
  induction h with
  | nil => exact .nil
  | cons hx hl ha hr ih =>
    rw [List.reverse_cons, List.reverse_cons]
    exact ih.append (.cons hx hl ha .nil)

theorem putAll_len : ∀ {is : List Nat} {ss : List Slot} {f f' : Frame}, putAll is ss f = some f' → is.length = ss.length
  | [], [], _, _, _ => rfl
  | [], _ :: _, _, _, h => by simp [pa1, pa2, pa3, pa4] at h
  | _ :: _, [], _, _, h => by simp [pa1, pa2, pa3, pa4] at h
  | i :: is, s :: ss, f, f', h => by
    simp only [pa1, pa2, pa3, pa4] at h
    split at h
    · cases h
    · simp [putAll_len h]

theorem swaps_sole (t e : Expr) (l : Nat) (env : Env) : swapsWithSole [t] e l env = swapsWith e (some t) l env := rfl
theorem unpack_sound {prog : Program} {w : World} {A : Around} {E : Value → Shared → Prop} {Q : List Value → Shared → Prop} {t : Addr} {its : Array Value} {k n : Nat} (hh : A.handled = none) (hn : n = its.size) (hg : s.heap.get? t = some (tupOf its k))
    (hQ : ∀ h', Heap.ExtBut s.heap.objs.size s.heap h' → Q its.toList { s with heap := h' }) : wpAny (model prog w) A (unpackItems (.ref t) n none) Q E s := by
  subst hn
  exact unpackItems_tuple hh ⟨_, hg, rfl, k, rfl⟩ hQ

theorem sok_asgS {is : List Nat} {xs es' : List Expr} {ns : List Str} {k k' : Nat} {p q pos : Pos} {rs : List R} (ok : CxOk c d) (hx : TNs c.cs c.names is xs) (hn : is.map (fun i => c.names[i]?) = ns.map some) (he : LROk c Z es' fr rs fr1) (hio : KeepsIo fr fr1) (hp : putAll is.reverse (rs.map R.slot).reverse fr1 = some fr2) (hle : rs.length ≤ 100)
    (hw : swappedStores [.Tuple xs k p] (.Tuple es' k' q) c.env = pure (some ns)) : SOk c Z (exec (.Assign [.Tuple xs k p] (.Tuple es' k' q) pos) c.env) fr .next fr2 := by
  intro m fz ex s Q S hz kk
  obtain ⟨hA, hl⟩ := acts_names ok hx hn
  refine Assign_Tuple_swapped (wpAny_Tuple (he m fz ex s _ q S hz fun ps fz1 h1 t1 e1 s1 S1 R1 => ⟨?_, ?_⟩)) rfl hw
  · have : ps.length = rs.length := by rw [← e1, List.length_map]
    simp only [List.length_map]; unfold sizeLine; omega
  have hlen : ns.length = ps.length := by
    have := putAll_len hp
    simp only [List.length_reverse, List.length_map] at this
    rw [← hl, this, ← e1]; simp
  have hn2 : ns.length = ((ps.map (·.1)).toArray).size := by simp [hlen]
  refine unpack_sound ok.hh hn2 (Heap.get?_push_size _ rfl) fun h2 hx2 => ?_
  have up2 : ∀ b o, h1.get? b = some o → h2.get? b = some o := fun b o e => up_ext hx2 b o (Heap.get?_push_of_some _ e)
  have e3 : (ps.map (·.1)).toArray.toList.reverse = ps.reverse.map (·.1) := by simp
  rw [e3, List.map_reverse (l := ns)]
  refine assign_sound (s := { s with heap := h2, toks := t1 }) ok hA.reverse (by rw [← e1, List.map_map, ← List.map_reverse] at hp; exact hp) (S1.keep up2) (R1.keep up2).reverse fun h3 t3 m3 _ S3 io3 => ?_
  exact kk .next m3 fz1 h3 t3 s1 S3 ((IoSame.of hio).trans io3) trivial

theorem rvs_vals {h : Heap} {vs : List V} {its : List Value} (hv : Vals c.fa fz vs its) : ∃ ps : List (Value × R), ps.map (·.1) = its ∧ ps.map (·.2.slot) = vs.map .val ∧ RVs c h m fz ex fr ps := by
  cases hv with
  | nil => exact ⟨[], rfl, rfl, ⟨fun _ hp => (nomatch hp), .nil⟩⟩
  | @cons v y vs ys h1 hr =>
    obtain ⟨ps, e1, e2, R⟩ := rvs_vals (h := h) hr
    refine ⟨(y, .val v) :: ps, by simp [e1], by simp only [List.map_cons, e2]; rfl, ⟨fun p hp => ?_, List.pairwise_cons.mpr ⟨fun q hq h => (by cases h), R.ap⟩⟩⟩
    rcases List.mem_cons.mp hp with rfl | hp
    · exact h1
    · exact R.rv p hp

theorem sok_asgU {is : List Nat} {xs : List Expr} {e' : Expr} {k : Nat} {p pos : Pos} {vs : List V} (ok : CxOk c d) (hx : TNs c.cs c.names is xs) (he : VOk c Z e' fr (.tup vs) fr1) (hio : KeepsIo fr fr1) (hp : putAll is (vs.map .val) fr1 = some fr2)
    (hsw : ∀ t l, swapsWith e' t l c.env = pure false) (hw : swappedStores [.Tuple xs k p] e' c.env = pure none) : SOk c Z (exec (.Assign [.Tuple xs k p] e' pos) c.env) fr .next fr2 := by
  intro m fz ex s Q S hz kk
  refine Assign_Tuple (he m fz ex s _ S hz fun vv fz1 h1 t1 s1 S1 v1 => ?_) ((swaps_sole _ _ _ _).trans (hsw _ _)) hw
  refine Val.tupE v1 fun a its n hm hv => ?_
  have hlen := putAll_len hp
  have len := hv.length
  refine wpAny_assign_Tuple (items := its.toArray) ok.hh ⟨_, S1.ofFz hm, rfl, n, rfl⟩ (by rw [hx.len.1, hlen]; simp [len]) hx.len.2 fun h2 hx2 => ?_
  obtain ⟨ps, e1, e2, R⟩ := rvs_vals (c := c) (m := m) (fz := fz1) (ex := ex) (fr := fr1) (h := h2) hv
  have e3 : its.toArray.toList = ps.map (·.1) := by simp [e1]
  rw [e3]
  refine assign_sound (s := { s with heap := h2, toks := t1 }) ok (acts_of hx) (by rw [e2]; exact hp) (S1.keep (up_ext hx2)) R fun h3 t3 m3 _ S3 io3 => ?_
  exact kk .next m3 fz1 h3 t3 s1 S3 ((IoSame.of hio).trans io3) trivial

noncomputable def WhI (c : Cx) (m : Str → Option Value) (fz ex : Led) (fr fr' : Frame) (fl : Fl) (s : Shared) (t : Frame → Option (Bool × Frame)) (b : Frame → Option (Fl × Frame)) (n : Nat) (s' : Shared) : Prop :=
  ∀ G : Prop, (∀ h tk m' fz₁ f, s' = { s with heap := h, toks := tk } → (∀ p ∈ fz, p ∈ fz₁) → FSt c h m' fz₁ ex f → IoSame c fr f m m' → whileF t b n f = some (fl, fr') → G) → G
theorem sok_wh {C : CallF} {b : IB} {bd : ISs} {b' : Expr} {body : List Stmt} {pos : Pos} {fl : Fl} (ok : CxOk c d) (ht : ∀ f t f1, evalB C b f = some (t, f1) → TOk c Z b' f t f1 ∧ KeepsIo f f1) (hb : ∀ f fl f1, xSs C bd f = some (fl, f1) → SOk c Z (execs body c.env) f fl f1)
    (h : whileI (fun f => evalB C b f) (fun f => xSs C bd f) fr = some (fl, fr')) : SOk c Z (exec (.While b' body [] pos) c.env) fr fl fr' := by
  intro m fz ex s Q S hz k
  obtain ⟨n, hn⟩ := whileI_ex h
  refine wpAny_While (codeAny_whileLoop (WhI c m fz ex fr fr' fl s (fun f => evalB C b f) (fun f => xSs C bd f)) ?_ n (fun _ KK => KK s.heap s.toks m fz fr rfl (fun _ e => e) S (IoSame.of (.refl _)) hn))
  intro n s' hI
  refine hI _ fun h tk m' fz₁ f e hs S₁ io₁ hn => ?_
  subst e
  cases n with
  | zero => cases hn
  | succ n =>
    simp only [whileF] at hn
    cases et : evalB C b f with
    | none => rw [et] at hn; cases hn
    | some p =>
      obtain ⟨t, f1⟩ := p
      rw [et] at hn
      obtain ⟨T, kio⟩ := ht f t f1 et
      refine wpAny_mono (T m' fz₁ ex { s with heap := h, toks := tk } _ S₁ (fun q hq => hs _ (hz q hq)) fun fz₂ h₂ t₂ s₂ S₂ => ?_) (fun _ _ q => q) (fun _ _ e => False.elim e)
      have io₂ := io₁.trans (IoSame.of (m := m') kio)
      cases t with
      | false =>
        cases hn
        exact wpAny_execs_nil (k .next m' fz₂ h₂ t₂ (fun p hp => s₂ p (hs p hp)) S₂ io₂ trivial)
      | true =>
        dsimp only at hn
        cases eb : xSs C bd f1 with
        | none => rw [eb] at hn; cases hn
        | some p =>
          obtain ⟨fw, f2⟩ := p
          rw [eb] at hn
          refine wpAny_mono (hb f1 fw f2 eb m' fz₂ ex { s with heap := h₂, toks := t₂ } _ S₂ (fun q hq => s₂ _ (hs _ (hz q hq))) fun flv m₃ fz₃ h₃ t₃ s₃ S₃ io₃ f₃ => ?_) (fun _ _ q => q) (fun _ _ e => False.elim e)
          have hs₃ : ∀ p ∈ fz, p ∈ fz₃ := fun p hp => s₃ p (s₂ p (hs p hp))
          cases fw with
          | ret v =>
            cases hn
            cases flv <;> simp only [FlV] at f₃
            exact k (.ret _) m₃ fz₃ h₃ t₃ hs₃ S₃ (io₂.trans io₃) f₃
          | next =>
            cases flv <;> simp only [FlV] at f₃
            exact ⟨n, Nat.lt_succ_self _, fun _ KK => KK h₃ t₃ m₃ fz₃ f2 rfl hs₃ S₃ (io₂.trans io₃) hn⟩
          | cont =>
            cases flv <;> simp only [FlV] at f₃
            exact ⟨n, Nat.lt_succ_self _, fun _ KK => KK h₃ t₃ m₃ fz₃ f2 rfl hs₃ S₃ (io₂.trans io₃) hn⟩
end
end Mine
end PSnd8

section PSnd9
set_option maxRecDepth 100000
open PySem PySem.W PySem.Spec PySem.Calls PyProof.Rows
namespace Mine
section
variable {c : Cx} {d : Nat} {Z : Led} {m : Str → Option Value} {fz fz' ex : Led} {fr fr' fr1 fr2 fr3 : Frame} {s : Shared} {x : Str} {i : Nat}

theorem for_name {C : CallF} {bd : ISs} {body : List Stmt} {p : Pos} {I : Addr} {keep : List Addr} {vs : List V} {n : Nat} {P : Nat → Value → Prop} {Stt : Nat → Heap → Prop} {fl : Fl} {R : Result → Shared → Prop}
    (ok : CxOk c d) (W : Walks c.prog c.w c.A I (I :: keep) [I] n P Stt) (hn : n = vs.length) (hP : ∀ j y v, P j y → vs[j]? = some v → Val c.fa fz v y)
    (alive : ∀ j h, Stt j h → ∃ o, h.get? I = some o) (hkeep : ∀ b ∈ keep, ∃ o, (b, o) ∈ fz) (hx : c.names[i]? = some x) (hl : c.cs.names.lookup x = some .local)
    (hz : ∀ q ∈ Z, q ∈ fz) (hbody : ∀ f fl f1, xSs C bd f = some (fl, f1) → SOk c Z (execs body c.env) f fl f1) (hex : ∀ q ∈ ex, q.1 ≠ I)
    {o : Obj} (S : FSt c s.heap m fz ((I, o) :: ex) fr) (st : Stt 0 s.heap)
    (hf : forI (fun v f => match put f i (.val v) with | none => none | some f1 => xSs C bd f1) vs fr = some (fl, fr'))
    (k : ∀ flv m' fz' h' tk', (∀ p ∈ fz, p ∈ fz') → FSt c h' m' fz' ex fr' → IoSame c fr fr' m m' → FlV c.fa fz' fl flv → R (.ok flv) { s with heap := h', toks := tk' }) :
    codeAny (model c.prog c.w) c.A (.forLoop (.Name x p) (.ref I) body [] c.env) R s := by
  subst hn
  have hexW : ∀ q ∈ ex, q.1 ∉ [I] := fun q hq hb => hex q hq (List.mem_singleton.mp hb)
  refine for_core (wr := [I]) (keep := keep) (asg := fun v f => put f i (.val v)) (its := [(I, o)]) (fun j h st b hb => by rw [List.mem_singleton.mp hb]; exact alive j h st)
    (fun j h h' st hk => W.frame j h h' st fun b hb => hk b (by rcases List.mem_cons.mp hb with rfl | hb; exact .inl (.head _); exact .inr hb)) hkeep ?_ ?_ hz hbody rfl S st hf k
  · intro j v m fz₁ its f f1 s₁ Q hv stj hs hw S₁ ha kk
    refine W.item j s₁ _ _ (List.getElem?_eq_some_iff.mp hv).1 stj fun y h₁ t₁ hPy st₁ hk₁ => ⟨y, rfl, wpAny_pure (a := ()) ?_⟩
    obtain ⟨its₁, hw₁, S₂⟩ := S₁.newIts hw hexW hk₁ fun b hb => by rw [List.mem_singleton.mp hb]; exact alive _ _ st₁
    refine wpAny_assign_Name (store_sound (s := { s₁ with heap := h₁, toks := t₁ }) (r := .val v) ok S₂ hx hl ha ((hP j y v hPy hv).mono hs) fun h₂ hs₂ S₃ io₃ => ?_)
    refine kk h₂ _ _ its₁ hw₁ (W.frame _ _ _ st₁ fun b hb o e => (hs₂.2 b fun q => ?_).trans e) S₃ io₃
    subst q
    rcases List.mem_cons.mp hb with hb | hb
    · have : c.L ∈ its₁.map (·.1) := by rw [hw₁, hb]; exact .head _
      obtain ⟨q, hq, e⟩ := List.mem_map.mp this
      exact (S₂.N q (List.mem_append_right _ (List.mem_append_left _ hq))).2.1 e
    · obtain ⟨o', hm⟩ := hkeep _ hb
      exact (S₂.N _ (List.mem_append_left _ (hs _ hm))).2.1 rfl
  · intro m fz₁ its f s₁ Q stn hw S₁ kk
    refine W.done s₁ _ _ stn fun h₁ t₁ hk₁ => ⟨rfl, kk h₁ t₁ ?_⟩
    have mem : ∀ b ∈ [I], ∃ o, (b, o) ∈ its := fun b hb => by
      rw [← hw] at hb
      obtain ⟨p, hp, rfl⟩ := List.mem_map.mp hb
      exact ⟨p.2, hp⟩
    refine (S₁.exSub (ex' := ex) fun p hp => List.mem_append_right _ hp).keepOff hk₁ (fun hb => ?_) (fun b hb => ?_) (fun q hq hb => ?_) hexW fun b hb => ?_
    · obtain ⟨o, hm⟩ := mem _ hb; exact (S₁.N _ (List.mem_append_right _ (List.mem_append_left _ hm))).2.1 rfl
    · obtain ⟨o, hm⟩ := mem _ hb; exact (S₁.N _ (List.mem_append_right _ (List.mem_append_left _ hm))).2.2
    · obtain ⟨o, hm⟩ := mem _ hb; exact S₁.dis q hq _ (List.mem_append_left _ hm) rfl
    · obtain ⟨o, hm⟩ := mem _ hb; exact S₁.offEx (List.mem_append_left _ hm)

theorem sok_forL {C : CallF} {bd : ISs} {body : List Stmt} {e' : Expr} {p pos : Pos} {vs : List V} {fl : Fl} (ok : CxOk c d) (hx : c.names[i]? = some x) (hl : c.cs.names.lookup x = some .local) (he : VOk c Z e' fr (.list vs) fr1) (hio : KeepsIo fr fr1) (hfold : ∀ v, foldedSetIterable e' c.env v = pure v) (hle : vs.length ≤ lenLim)
    (hbody : ∀ f fl f1, xSs C bd f = some (fl, f1) → SOk c Z (execs body c.env) f fl f1)
    (hf : forI (fun v f => match put f i (.val v) with | none => none | some f1 => xSs C bd f1) vs fr1 = some (fl, fr')) : SOk c Z (exec (.For (.Name x p) e' body [] pos) c.env) fr fl fr' := by
  intro m fz ex s Q S hz k
  refine wpAny_For (he m fz ex s _ S hz fun vv fz1 h1 t1 s1 S1 v1 => ?_) hfold
  refine Val.listE v1 fun a its n hm hv => ?_
  have hg := S1.ofFz hm
  have hL : h1.IsList a its.toArray := ⟨_, hg, rfl, n, rfl⟩
  refine wpAny_pyIter_list hL ?_
  obtain ⟨a1, a2, a3, a4, a5⟩ := S1.newAddr
  have hne : a ≠ h1.objs.size := Nat.ne_of_lt (Heap.lt_size hg)
  have W := Walks.list (prog := c.prog) (w := c.w) (A := c.A) ok.hh h1.objs.size a hne its.toArray
  refine for_name (keep := [a]) (vs := vs) (o := { cls := .type "list_iterator", data := .fields #[.ref a, .int 0 0] }) (fl := fl) (fr' := fr') ok W (by simp [hv.length]) (fun j y v hy hv' => ?_) (fun j h st => ?_) (fun b hb => ?_) hx hl (fun q hq => s1 _ (hz q hq)) hbody a4
    ((S1.push _).exAdd (Heap.get?_push_size _ rfl) a1 a2 a3 a5) ⟨⟨_, Heap.get?_push_size _ rfl, rfl, rfl⟩, hL.push _⟩ hf fun flv m' fz' h' tk' hs' S' io' f' => k flv m' fz' h' tk' (fun p hp => hs' p (s1 p hp)) S' ((IoSame.of hio).trans io') f'
  · have hy' : its[j]? = some y := by simpa using hy
    obtain ⟨v', e1, e2⟩ := hv.at hy'
    rw [hv'] at e1; cases e1; exact e2
  · obtain ⟨o, ho, _⟩ := st.1; exact ⟨o, ho⟩
  · rw [List.mem_singleton.mp hb]; exact ⟨_, hm⟩

theorem range_size {down : Bool} {a b : Int} : Builtin.Range.rangeSize a b (if down then -1 else 1) = ((rangeI down a b).length : Nat) := by
  unfold Builtin.Range.rangeSize rangeI
  cases down
  · simp; split <;> omega
  · simp; split <;> omega
theorem nb {a : Int} (h : a.natAbs < 2 ^ 62) : -4611686018427387904 < a ∧ a < 4611686018427387904 := by omega
theorem nbl {a : Int} (h : -4611686018427387904 < a) : -9223372036854775808 ≤ a := Int.le_of_lt (Int.lt_trans (by decide) h)
theorem nbh {a : Int} (h : a < 4611686018427387904) : a < 9223372036854775808 := Int.lt_trans h (by decide)
theorem nbs {a b : Int} (h : -4611686018427387904 < a) (k : b < 4611686018427387904) : b - a < 9223372036854775808 := by omega
theorem range_small {down : Bool} {a b : Int} (ha : a.natAbs < lim) (hb : b.natAbs < lim) : Builtin.Range.small a b (if down then -1 else 1) = true := by
  have hs := range_size (down := down) (a := a) (b := b)
  have a1 := (nb ha).1
  have a2 := (nb ha).2
  have b1 := (nb hb).1
  have b2 := (nb hb).2
  clear ha hb
  have hl : ((rangeI down a b).length : Int) < 2 ^ 63 := by
    unfold rangeI
    cases down <;> simp
    · exact Int.max_lt.mpr ⟨nbs a1 b2, by decide⟩
    · exact Int.max_lt.mpr ⟨nbs b1 a2, by decide⟩
  unfold Builtin.Range.small
  rw [hs]
  unfold Builtin.Range.rangeFitsLong
  have hl2 : ((rangeI down a b).length : Int) < 9223372036854775808 := hl
  cases down <;> simp
  · exact ⟨⟨⟨⟨nbl a1, nbh a2⟩, nbl b1, nbh b2⟩, hl2⟩, .inr ⟨nbl b1, nbh b2⟩⟩
  · exact ⟨⟨⟨⟨nbl a1, nbh a2⟩, nbl b1, nbh b2⟩, hl2⟩, .inr ⟨nbl b1, nbh b2⟩⟩
theorem range_at {down : Bool} {a b : Int} {j : Nat} {v : V} (h : ((rangeI down a b).map V.int)[j]? = some v) : v = .int (a + (j : Int) * (if down then -1 else 1)) := by
  unfold rangeI at h
  cases down
  · simp at h
    obtain ⟨k, h1, h2⟩ := h
    obtain ⟨_, h1⟩ := List.getElem?_eq_some_iff.mp h1
    simp at h1
    rw [← h2, ← h1]; simp
  · simp at h
    obtain ⟨k, h1, h2⟩ := h
    obtain ⟨_, h1⟩ := List.getElem?_eq_some_iff.mp h1
    simp at h1
    rw [← h2, ← h1]; simp; omega

theorem range_core {C : CallF} {bd : ISs} {body : List Stmt} {p : Pos} {down : Bool} {a b : Int} {r : Addr} {t u v : Tok} {fl : Fl} {Q : Flow → Shared → Prop} (ok : CxOk c d) (hx : c.names[i]? = some x) (hl : c.cs.names.lookup x = some .local)
    (ha : a.natAbs < lim) (hb : b.natAbs < lim) (S : FSt c s.heap m fz ex fr) (hr : IsRange s.heap r a b (if down then -1 else 1) t u v) (hz : ∀ q ∈ Z, q ∈ fz)
    (hbody : ∀ f fl f1, xSs C bd f = some (fl, f1) → SOk c Z (execs body c.env) f fl f1)
    (hf : forI (fun v f => match put f i (.val v) with | none => none | some f1 => xSs C bd f1) ((rangeI down a b).map .int) fr = some (fl, fr'))
    (k : ∀ flv m' fz' h' tk', (∀ p ∈ fz, p ∈ fz') → FSt c h' m' fz' ex fr' → IoSame c fr fr' m m' → FlV c.fa fz' fl flv → Q flv { s with heap := h', toks := tk' }) :
    wpAny (model c.prog c.w) c.A (pyIter (.ref r)) (fun it s₂ => codeAny (model c.prog c.w) c.A (.forLoop (.Name x p) it body [] c.env) (fun r s' => match r with | .ok f => Q f s' | .error e => cameBackBy (model c.prog c.w) c.A c.env NoE e s') s₂) NoE s := by
  have hsm : Builtin.Range.small a b (if down then -1 else 1) = true := range_small ha hb
  refine wpAny_pyIter_range hr hsm ?_
  obtain ⟨a1, a2, a3, a4, a5⟩ := S.newAddr
  have W := Walks.range (prog := c.prog) (w := c.w) (A := c.A) ok.hh s.heap.objs.size a (if down then -1 else 1) ((rangeI down a b).map V.int).length
  have hsz : Builtin.Range.rangeSize a b (if down then -1 else 1) = (((rangeI down a b).map V.int).length : Nat) := by
    rw [List.length_map]; exact range_size
  refine for_name (keep := []) (vs := (rangeI down a b).map .int) (o := { cls := .type "range_iterator", data := .fields #[rawInt a, rawInt (Builtin.Range.rangeSize a b (if down then -1 else 1)), rawInt (if down then -1 else 1)] }) (fl := fl) (fr' := fr') ok W rfl (fun j y v hy hv' => ?_) (fun j h st => ⟨_, st⟩) (fun b hb => nomatch hb) hx hl hz hbody a4
    ((S.push _).exAdd (Heap.get?_push_size _ rfl) a1 a2 a3 a5) ?_ hf k
  · obtain ⟨t, rfl⟩ := hy
    rw [range_at hv']; exact .int _ _
  · rw [← hsz]
    have := Heap.get?_push_size s.heap (o := { cls := .type "range_iterator", data := .fields #[rawInt a, rawInt (Builtin.Range.rangeSize a b (if down then -1 else 1)), rawInt (if down then -1 else 1)] }) rfl
    simpa using this

theorem sok_forR1 {C : CallF} {bd : ISs} {body : List Stmt} {hi' : Expr} {p q cp pos : Pos} {b : Int} {fl : Fl} (ok : CxOk c d) (hbn : BName c.K c.cs (Str.ofString "range")) (hx : c.names[i]? = some x) (hl : c.cs.names.lookup x = some .local) (hst : ∀ rest, starEach (hi' :: rest) c.env = (false, eval hi' c.env) :: starEach rest c.env)
    (he : VOk c Z hi' fr (.int b) fr1) (hio : KeepsIo fr fr1) (hb : b.natAbs < lim) (hbody : ∀ f fl f1, xSs C bd f = some (fl, f1) → SOk c Z (execs body c.env) f fl f1)
    (hf : forI (fun v f => match put f i (.val v) with | none => none | some f1 => xSs C bd f1) ((rangeI false 0 b).map .int) fr1 = some (fl, fr')) : SOk c Z (exec (.For (.Name x p) (.Call (.Name (Str.ofString "range") q) [hi'] [] cp) body [] pos) c.env) fr fl fr' := by
  intro m fz ex s Q S hz k
  refine wpAny_For (call_shape (load_builtin ok S hbn boot_range (by decide) (by decide) (callWith_mach rfl (hst _) rfl (spliced_more (he m fz ex s _ S hz fun vv fz1 h1 t1 s1 S1 v1 => spliced_none ?_) (hst _))))) (fun _ => rfl)
  refine Val.intE v1 fun tb => ?_
  refine call_range_1 (s := { s with heap := h1, toks := t1 }) ?_
  exact range_core (down := false) (a := 0) (b := b) (s := { s with heap := _, toks := _ }) (Q := Q) ok hx hl (by decide) hb (S1.push _) (IsRange.new _ _ _ _ _ _ _) (fun q hq => s1 _ (hz q hq)) hbody hf fun flv m' fz' h' tk' hs' S' io' f' => k flv m' fz' h' tk' (fun p hp => hs' p (s1 p hp)) S' ((IoSame.of hio).trans io') f'

theorem sok_forR2 {C : CallF} {bd : ISs} {body : List Stmt} {lo' hi' : Expr} {p q cp pos : Pos} {a b : Int} {fl : Fl} (ok : CxOk c d) (hbn : BName c.K c.cs (Str.ofString "range")) (hx : c.names[i]? = some x) (hl : c.cs.names.lookup x = some .local) (hst : ∀ rest, starEach (hi' :: rest) c.env = (false, eval hi' c.env) :: starEach rest c.env) (hst0 : ∀ rest, starEach (lo' :: rest) c.env = (false, eval lo' c.env) :: starEach rest c.env)
    (h0 : VOk c Z lo' fr (.int a) fr1) (hio1 : KeepsIo fr fr1) (he : VOk c Z hi' fr1 (.int b) fr2) (hio : KeepsIo fr1 fr2) (ha : a.natAbs < lim) (hb : b.natAbs < lim) (hbody : ∀ f fl f1, xSs C bd f = some (fl, f1) → SOk c Z (execs body c.env) f fl f1)
    (hf : forI (fun v f => match put f i (.val v) with | none => none | some f1 => xSs C bd f1) ((rangeI false a b).map .int) fr2 = some (fl, fr')) : SOk c Z (exec (.For (.Name x p) (.Call (.Name (Str.ofString "range") q) [lo', hi'] [] cp) body [] pos) c.env) fr fl fr' := by
  intro m fz ex s Q S hz k
  refine wpAny_For (call_shape (load_builtin ok S hbn boot_range (by decide) (by decide) (callWith_mach rfl (hst0 _) (by rw [hst]; rfl) (spliced_more (h0 m fz ex s _ S hz fun av fz1 h1 t1 s1 S1 v1 => spliced_more (he m fz1 ex _ _ S1 (fun q hq => s1 _ (hz q hq)) fun vv fz2 h2 t2 s2 S2 v2 => spliced_none ?_) (hst _)) (hst0 _))))) (fun _ => rfl)
  refine Val.intE v1 fun ta => ?_
  refine Val.intE v2 fun tb => ?_
  refine call_range_2 (s := { s with heap := h2, toks := t2 }) ?_
  exact range_core (down := false) (a := a) (b := b) (s := { s with heap := _, toks := _ }) (Q := Q) ok hx hl ha hb (S2.push _) (IsRange.new _ _ _ _ _ _ _) (fun q hq => s2 _ (s1 _ (hz q hq))) hbody hf fun flv m' fz' h' tk' hs' S' io' f' => k flv m' fz' h' tk' (fun p hp => hs' p (s2 p (s1 p hp))) S' ((IoSame.of (hio1.trans hio)).trans io') f'

theorem sok_forR3 {C : CallF} {bd : ISs} {body : List Stmt} {lo' hi' : Expr} {p q cp pos p1 p2 : Pos} {kk : Nat} {a b : Int} {fl : Fl} (ok : CxOk c d) (hbn : BName c.K c.cs (Str.ofString "range")) (hx : c.names[i]? = some x) (hl : c.cs.names.lookup x = some .local) (hst : ∀ rest, starEach (hi' :: rest) c.env = (false, eval hi' c.env) :: starEach rest c.env) (hst0 : ∀ rest, starEach (lo' :: rest) c.env = (false, eval lo' c.env) :: starEach rest c.env)
    (h0 : VOk c Z lo' fr (.int a) fr1) (hio1 : KeepsIo fr fr1) (he : VOk c Z hi' fr1 (.int b) fr2) (hio : KeepsIo fr1 fr2) (ha : a.natAbs < lim) (hb : b.natAbs < lim) (hbody : ∀ f fl f1, xSs C bd f = some (fl, f1) → SOk c Z (execs body c.env) f fl f1)
    (hf : forI (fun v f => match put f i (.val v) with | none => none | some f1 => xSs C bd f1) ((rangeI true a b).map .int) fr2 = some (fl, fr')) : SOk c Z (exec (.For (.Name x p) (.Call (.Name (Str.ofString "range") q) [lo', hi', .UnaryOp .USub (.Constant (.int 1) kk p1) p2] [] cp) body [] pos) c.env) fr fl fr' := by
  intro m fz ex s Q S hz k
  have hst3 : ∀ rest, starEach (.UnaryOp .USub (.Constant (.int 1) kk p1) p2 :: rest) c.env = (false, eval (.UnaryOp .USub (.Constant (.int 1) kk p1) p2) c.env) :: starEach rest c.env := fun _ => rfl
  refine wpAny_For (call_shape (load_builtin ok S hbn boot_range (by decide) (by decide) (callWith_mach rfl (hst0 _) (by rw [hst]; rfl) (spliced_more (h0 m fz ex s _ S hz fun av fz1 h1 t1 s1 S1 v1 => spliced_more (he m fz1 ex _ _ S1 (fun q hq => s1 _ (hz q hq)) fun vv fz2 h2 t2 s2 S2 v2 => spliced_more ?_ (hst3 _)) (hst _)) (hst0 _))))) (fun _ => rfl)
  have hneg : VOk c Z (.UnaryOp .USub (.Constant (.int 1) kk p1) p2) fr2 (.int (-1)) fr2 := (ok_neg (n := 1) (ok_int (n := 1)).v).v
  refine hneg m fz2 ex _ _ S2 (fun q hq => s2 _ (s1 _ (hz q hq))) fun nv fz3 h3 t3 s3 S3 v3 => spliced_none ?_
  refine Val.intE v1 fun ta => ?_
  refine Val.intE v2 fun tb => ?_
  refine Val.intE v3 fun tn => ?_
  refine call_range_3 (s := { s with heap := h3, toks := t3 }) (by decide) ?_ (.inl (PyProof.noPylong_small (by decide)))
  exact range_core (down := true) (a := a) (b := b) (s := { s with heap := _, toks := _ }) (Q := Q) ok hx hl ha hb (S3.push _) (IsRange.new _ _ _ _ _ _ _) (fun q hq => s3 _ (s2 _ (s1 _ (hz q hq)))) hbody hf fun flv m' fz' h' tk' hs' S' io' f' => k flv m' fz' h' tk' (fun p hp => hs' p (s3 p (s2 p (s1 p hp)))) S' ((IoSame.of (hio1.trans hio)).trans io') f'

theorem enum_at : ∀ {vs : List V} {n j : Nat} {v : V}, (enumFrom n vs)[j]? = some v → ∃ y, vs[j]? = some y ∧ v = .tup [.int ((n + j : Nat) : Int), y]
  | [], _, _, _, h => by simp [enumFrom] at h
  | y :: r, n, 0, v, h => by simp [enumFrom] at h; exact ⟨y, rfl, by simp [h]⟩
  | y :: r, n, j + 1, v, h => by
    simp [enumFrom] at h
    obtain ⟨y', e1, e2⟩ := enum_at h
    exact ⟨y', by simpa using e1, by rw [e2]; simp; omega⟩
theorem enum_len : ∀ (vs : List V) (n : Nat), (enumFrom n vs).length = vs.length
  | [], _ => rfl
  | _ :: r, n => by simp [enumFrom, enum_len r]

theorem sok_forE {C : CallF} {bd : ISs} {body : List Stmt} {e' : Expr} {y : Str} {j₀ kk : Nat} {p1 p2 p3 q cp pos : Pos} {vs : List V} {fl : Fl} (ok : CxOk c d) (hbn : BName c.K c.cs (Str.ofString "enumerate")) (hx : c.names[i]? = some x) (hl : c.cs.names.lookup x = some .local) (hy : c.names[j₀]? = some y) (hl' : c.cs.names.lookup y = some .local) (hst : ∀ rest, starEach (e' :: rest) c.env = (false, eval e' c.env) :: starEach rest c.env)
    (he : VOk c Z e' fr (.list vs) fr1) (hio : KeepsIo fr fr1) (hle : vs.length ≤ lenLim) (hbody : ∀ f fl f1, xSs C bd f = some (fl, f1) → SOk c Z (execs body c.env) f fl f1)
    (hf : forI (fun v f => match v with
            | .tup ws => match putAll [i, j₀] (ws.map .val) f with
              | none => none
              | some f1 => xSs C bd f1
            | _ => none) (enumFrom 0 vs) fr1 = some (fl, fr')) : SOk c Z (exec (.For (.Tuple [.Name x p1, .Name y p2] kk p3) (.Call (.Name (Str.ofString "enumerate") q) [e'] [] cp) body [] pos) c.env) fr fl fr' := by
  intro m fz ex s Q S hz k
  refine wpAny_For (call_shape (load_builtin ok S hbn boot_enum (by decide) (by decide) (callWith_mach rfl (hst _) rfl (spliced_more (he m fz ex s _ S hz fun vv fz1 h1 t1 s1 S1 v1 => spliced_none ?_) (hst _))))) (fun _ => rfl)
  refine Val.listE v1 fun a its n hm hv => ?_
  have hg := S1.ofFz hm
  have hL : h1.IsList a its.toArray := ⟨_, hg, rfl, n, rfl⟩
  refine call_enumerate_list (s := { s with heap := h1, toks := t1 }) hL fun h2 hen hit hsz hk2 => ?_
  replace hen : IsEnum h2 (h1.objs.size + 1) h1.objs.size 0 .none := hen
  replace hit : h2.IsListIter h1.objs.size a 0 := hit
  have S2 := S1.keep hk2
  refine wpAny_pyIter_enum hen ?_
  have hne : a ≠ h1.objs.size := Nat.ne_of_lt (Heap.lt_size hg)
  have hne2 : a ≠ h1.objs.size + 1 := Nat.ne_of_lt (Nat.lt_succ_of_lt (Heap.lt_size hg))
  have hee : h1.objs.size + 1 ≠ h1.objs.size := Nat.succ_ne_self _
  have W := WalksT.enumerateD (Draws.list (prog := c.prog) (w := c.w) (A := c.A.in1) ok.hh h1.objs.size a hne its.toArray) (h1.objs.size + 1) hee (by simp; exact Ne.symm hne2) (.head _)
  obtain ⟨b1, b2, b3, b4, b5⟩ := S1.newAt (Nat.le_refl h1.objs.size)
  obtain ⟨a1, a2, a3, a4, a5⟩ := S1.newAt (Nat.le_succ h1.objs.size)
  obtain ⟨oi, hoi, _⟩ := id hit
  have S3 := S2.exAddAll [(h1.objs.size + 1, { cls := .type "enumerate", dict := none, data := .fields #[.none, .bool false, .ref h1.objs.size, rawInt 0, .none, .none], slots := #[] }), (h1.objs.size, oi)]
    (fun q hq => by rcases List.mem_cons.mp hq with rfl | hq; exact hen; rw [List.mem_singleton.mp hq]; exact hoi)
    (fun q hq => by rcases List.mem_cons.mp hq with rfl | hq; exact a1; rw [List.mem_singleton.mp hq]; exact b1)
    (fun q hq => by rcases List.mem_cons.mp hq with rfl | hq; exact a2; rw [List.mem_singleton.mp hq]; exact b2)
    (fun q hq => by rcases List.mem_cons.mp hq with rfl | hq; exact a3; rw [List.mem_singleton.mp hq]; exact b3)
    (fun q hq => by rcases List.mem_cons.mp hq with rfl | hq; exact a5; rw [List.mem_singleton.mp hq]; exact b5)
  have hexW : ∀ q ∈ ex, q.1 ∉ [h1.objs.size + 1, h1.objs.size] := fun q hq hb => by
    rcases List.mem_cons.mp hb with e | hb
    · exact a4 q hq e
    · exact b4 q hq (List.mem_singleton.mp hb)
  have alive : ∀ (j : Nat) (h : Heap), ((∃ old, IsEnum h (h1.objs.size + 1) h1.objs.size j old) ∧ h.IsListIter h1.objs.size a j ∧ h.IsList a its.toArray) → ∀ b ∈ [h1.objs.size + 1, h1.objs.size], ∃ o, h.get? b = some o := fun j h st b hb => by
    obtain ⟨⟨old, st1⟩, ⟨o, ho, _⟩, _⟩ := st
    rcases List.mem_cons.mp hb with rfl | hb
    · exact ⟨_, st1⟩
    · rw [List.mem_singleton.mp hb]; exact ⟨o, ho⟩
  have hlen : its.length = vs.length := hv.length
  refine for_core (c := c) (Z := Z) (m := m) (fz := fz1) (ex := ex) (fr := fr1) (fr' := fr') (s := { s with heap := h2, toks := t1 }) (C := C) (bd := bd) (wr := [h1.objs.size + 1, h1.objs.size]) (keep := [a]) (vs := enumFrom 0 vs) (fl := fl)
    (Stt := fun (j : Nat) (h : Heap) => (∃ old, IsEnum h (h1.objs.size + 1) h1.objs.size j old) ∧ h.IsListIter h1.objs.size a j ∧ h.IsList a its.toArray)
    (asg := fun v f => match v with | .tup ws => putAll [i, j₀] (ws.map .val) f | _ => none) alive
    (fun j h h' st hk => W.frame j h h' st fun b hb => hk b ?_) (fun b hb => by obtain rfl := List.mem_singleton.mp hb; exact ⟨_, hm⟩) ?_ ?_ (fun q hq => s1 _ (hz q hq)) hbody rfl S3 ⟨⟨_, hen⟩, hit, hL.at fun o e => hk2 _ o e⟩ ?_ fun flv m' fz' h' tk' hs' S' io' f' => k flv m' fz' h' tk' (fun p hp => hs' p (s1 p hp)) S' ((IoSame.of hio).trans io') f'
  · rcases List.mem_cons.mp hb with rfl | hb
    · exact .inl (.head _)
    · rcases List.mem_cons.mp hb with rfl | hb
      · exact .inl (.tail _ (.head _))
      · exact .inr hb
  · intro j v m₁ fz₁ its₁ f f1 s₁ Q' hv' stj hs hw S₁ ha kk'
    have hjl : j < its.toArray.size := by
      have := (List.getElem?_eq_some_iff.mp hv').1
      rw [enum_len] at this
      simp [hlen, this]
    refine W.item j s₁ _ _ hjl stj fun T vals h₂ t₂ hPt hT0 hT hMid hk₂ => ⟨.ref T, rfl, ?_⟩
    refine W.go _ _ _ j T { s₁ with heap := h₂, toks := t₂ } _ _ hMid fun h₃ st₃ hk₃ => ?_
    obtain ⟨y', ey, rfl⟩ := enum_at hv'
    obtain ⟨tk, y₀, hPx, rfl⟩ := hPt
    have hy' : its[j]? = some y₀ := by simpa using hPx
    obtain ⟨v', e1, e2⟩ := hv.at hy'
    rw [ey] at e1; cases e1
    have hk₂₃ : ∀ b o, b ∉ [h1.objs.size + 1, h1.objs.size] → s₁.heap.get? b = some o → h₃.get? b = some o := fun b o hb e => hk₃ b o hb (hk₂ b o hb e)
    obtain ⟨its₂, hw₂, S₂⟩ := S₁.newIts hw hexW hk₂₃ (alive _ _ st₃)
    have hT₃ : h₃.IsTuple T #[.int j tk, y₀] := hT.at fun o e => hk₃ T o (W.apart _ _ _ hMid) e
    refine wpAny_assign_Tuple (s := { s₁ with heap := h₃, toks := t₂ }) ok.hh hT₃ rfl rfl fun h₄ hx₄ => ?_
    have up₄ : ∀ b o, h₃.get? b = some o → h₄.get? b = some o := up_ext hx₄
    have hA : Acts c [i, j₀] ((assignEach [.Name x p1, .Name y p2] c.env).map (·.2)) := acts_of (.cons hx hl (.cons hy hl' .nil))
    obtain ⟨ps, q1, q2, R⟩ := rvs_vals (c := c) (m := m₁) (fz := fz₁) (ex := its₂ ++ ex) (fr := f) (h := h₄) (Vals.cons (Val.int (j : Int) tk) (Vals.cons (e2.mono hs) Vals.nil))
    have q3 : (#[Value.int j tk, y₀] : Array Value).toList = ps.map (·.1) := by rw [q1]
    rw [q3]
    refine assign_sound (s := { s₁ with heap := h₄, toks := t₂ }) ok hA (by rw [q2]; simpa using ha) (S₂.keep up₄) R fun h₅ t₅ m₅ hk₅ S₅ io₅ => ?_
    refine kk' h₅ t₅ m₅ its₂ hw₂ (W.frame _ _ _ st₃ fun b hb o e => hk₅ b o (fun q => ?_) (up₄ b o e)) S₅ io₅
    subst q
    rcases List.mem_cons.mp hb with hb | hb
    · exact a1 hb.symm
    · rcases List.mem_cons.mp hb with hb | hb
      · exact b1 hb.symm
      · exact (S1.N _ (List.mem_append_left _ hm)).2.1 (List.mem_singleton.mp hb).symm
  · intro m₁ fz₁ its₁ f s₁ Q' stn hw S₁ kk'
    rw [enum_len, ← hlen] at stn
    refine W.done s₁ _ _ (by simpa using stn) fun h₂ t₂ hk₂ => ⟨rfl, kk' h₂ t₂ ?_⟩
    have mem : ∀ b ∈ [h1.objs.size + 1, h1.objs.size], ∃ o, (b, o) ∈ its₁ := fun b hb => by
      rw [← hw] at hb
      obtain ⟨p, hp, rfl⟩ := List.mem_map.mp hb
      exact ⟨p.2, hp⟩
    refine (S₁.exSub (ex' := ex) fun p hp => List.mem_append_right _ hp).keepOff hk₂ (fun hb => ?_) (fun b hb => ?_) (fun q hq hb => ?_) hexW fun b hb => ?_
    · obtain ⟨o, hm⟩ := mem _ hb; exact (S₁.N _ (List.mem_append_right _ (List.mem_append_left _ hm))).2.1 rfl
    · obtain ⟨o, hm⟩ := mem _ hb; exact (S₁.N _ (List.mem_append_right _ (List.mem_append_left _ hm))).2.2
    · obtain ⟨o, hm⟩ := mem _ hb; exact S₁.dis q hq _ (List.mem_append_left _ hm) rfl
    · obtain ⟨o, hm⟩ := mem _ hb; exact S₁.offEx (List.mem_append_left _ hm)
  · rw [← hf]
    congr 1
    funext v f
    cases v <;> rfl
end
end Mine
end PSnd9

section PSnd10
set_option maxRecDepth 100000
open PySem PySem.W PySem.Spec PySem.Calls PyProof.Rows
namespace Mine

theorem ownedAt_own {o : Option Slot} (h : ownedAt o = true) : ∃ sl vs, o = some sl ∧ (sl = .own vs ∨ sl = .io vs) := by
  unfold ownedAt at h
  split at h
  · rename_i s
    cases s with
    | unset => cases h
    | val => cases h
    | own vs => exact ⟨_, vs, rfl, .inl rfl⟩
    | io vs => exact ⟨_, vs, rfl, .inr rfl⟩
  · cases h

section
variable (K : Frag) (fa : Nat → Addr) (cs : Scope) (names : List Str)
structure TS (s : IS) (s' : Stmt) : Prop where
  snd : ∀ {c d Z C}, At K fa cs names c d Z C → ∀ {fr fr' fl}, xS C s fr = some (fl, fr') → SOk c Z (exec s' c.env) fr fl fr'
structure TSs (ss : ISs) (ss' : List Stmt) : Prop where
  snd : ∀ {c d Z C}, At K fa cs names c d Z C → ∀ {fr fr' fl}, xSs C ss fr = some (fl, fr') → SOk c Z (execs ss' c.env) fr fl fr'
end
section
variable {K : Frag} {fa : Nat → Addr} {cs : Scope} {names : List Str} {i j k k' : Nat} {x y : Str} {p q ap cp pos : Pos} {e ix lo hi : IE} {b : IB} {e' ix' b' lo' hi' : Expr} {es : IEs} {xs es' : List Expr} {is : List Nat} {s t : ISs} {s' t' : List Stmt}
theorem TEs.sndR (h : TEs K fa cs names es es') {c d Z C} (A : At K fa cs names c d Z C) {fr fr' rs} (g : evalEs C es fr = some (rs, fr')) : LROk c Z es' fr rs fr' :=
  h.ind A (LROk c Z) (fun _ => lrok_nil) (fun h1 h2 h3 h4 => lrok_cons h1 (h3.star _ _) h4) g
theorem TS.asg (hx : names[i]? = some x) (hl : cs.names.lookup x = some .local) (he : TE K fa cs names e e') : TS K fa cs names (.asg i e) (.Assign [.Name x p] e' pos) :=
  ⟨fun A fr fr' fl h => by
    obtain ⟨rfl, rfl, rfl, rfl, ok, hC⟩ := A
    simp only [xx1, xx2, xx3, xx4, xx5, xx6, xx7, xx8, xx9, xx10, xx11, xx12, xx13, xx14, xx15, xx16] at h
    split at h
    · cases h
    · rename_i r fr1 e1
      simp only [Option.map_eq_some_iff] at h
      obtain ⟨fr2, hp, e2⟩ := h
      cases e2
      have h1 := he.snd ⟨rfl, rfl, rfl, rfl, ok, hC⟩ e1
      exact sok_asg ok hx hl h1.1 h1.2 hp fun t l => he.pl.swaps t l _⟩
theorem TS.asgS {ns : List Str} (hx : TNs cs names is xs) (hn : is.map (fun i => names[i]?) = ns.map some) (hle : es'.length ≤ 100) (he : TEs K fa cs names es es')
    (hw : ∀ env : Env, env.scope = cs → swappedStores [.Tuple xs k p] (.Tuple es' k' q) env = pure (some ns)) : TS K fa cs names (.asgS is es) (.Assign [.Tuple xs k p] (.Tuple es' k' q) pos) :=
  ⟨fun A fr fr' fl h => by
    obtain ⟨rfl, rfl, rfl, rfl, ok, hC⟩ := A
    simp only [xx1, xx2, xx3, xx4, xx5, xx6, xx7, xx8, xx9, xx10, xx11, xx12, xx13, xx14, xx15, xx16] at h
    split at h
    · cases h
    · rename_i rs fr1 e1
      simp only [Option.map_eq_some_iff] at h
      obtain ⟨fr2, hp, e2⟩ := h
      cases e2
      have h1 := he.snd ⟨rfl, rfl, rfl, rfl, ok, hC⟩ e1
      exact sok_asgS ok hx hn (he.sndR ⟨rfl, rfl, rfl, rfl, ok, hC⟩ e1) h1.2.1 hp (by rw [h1.2.2]; exact hle) (hw _ rfl)⟩
theorem TS.asgU (hx : TNs cs names is xs) (he : TE K fa cs names e e')
    (hw : ∀ env : Env, env.scope = cs → swappedStores [.Tuple xs k p] e' env = pure none) : TS K fa cs names (.asgU is e) (.Assign [.Tuple xs k p] e' pos) :=
  ⟨fun A fr fr' fl h => by
    obtain ⟨rfl, rfl, rfl, rfl, ok, hC⟩ := A
    simp only [xx1, xx2, xx3, xx4, xx5, xx6, xx7, xx8, xx9, xx10, xx11, xx12, xx13, xx14, xx15, xx16] at h
    split at h
    · rename_i vs fr1 e1
      simp only [Option.map_eq_some_iff] at h
      obtain ⟨fr2, hp, e2⟩ := h
      cases e2
      have h1 := he.snd ⟨rfl, rfl, rfl, rfl, ok, hC⟩ e1
      exact sok_asgU ok hx h1.1.v h1.2 hp (fun t l => he.pl.swaps t l _) (hw _ rfl)
    · cases h⟩
theorem TS.seti (hx : names[i]? = some x) (hn : okName x = true) (hi : TE K fa cs names ix ix') (he : TE K fa cs names e e') : TS K fa cs names (.seti i ix e) (.Assign [.Subscript (.Name x p) ix' q] e' pos) :=
  ⟨fun A fr fr' fl h => by
    simp only [xx1, xx2, xx3, xx4, xx5, xx6, xx7, xx8, xx9, xx10, xx11, xx12, xx13, xx14, xx15, xx16] at h
    split at h
    · cases h
    · rename_i r fr1 e1
      split at h
      · rename_i ho
        split at h
        · rename_i k fr2 e2
          simp only [Option.map_eq_some_iff] at h
          obtain ⟨sl, hs, e3⟩ := h
          cases e3
          have h1 := he.snd A e1
          have h2 := hi.snd A e2
          exact sok_seti A.ok (A.nm ▸ hx) hn h1.1.v h1.2 h2.1.v h2.2 (ownedAt_own ho) hs fun t l => he.pl.swaps t l _
        · cases h
      · cases h⟩
theorem TS.aug {op : BOp} (hx : names[i]? = some x) (hl : cs.names.lookup x = some .local) (ho : op = .add ∨ op = .sub ∨ op = .mod ∨ op = .shr ∨ op = .bor) (he : TE K fa cs names e e') : TS K fa cs names (.aug i op e) (.AugAssign (.Name x p) op.op e' pos) :=
  ⟨fun A fr fr' fl h => by
    simp only [xx1, xx2, xx3, xx4, xx5, xx6, xx7, xx8, xx9, xx10, xx11, xx12, xx13, xx14, xx15, xx16] at h
    split at h
    · rename_i a e0
      split at h
      · rename_i b fr1 e1
        split at h
        · cases h
        · rename_i n hb
          simp only [Option.map_eq_some_iff] at h
          obtain ⟨fr2, hp, e2⟩ := h
          cases e2
          have h1 := he.snd A e1
          exact sok_aug A.ok (A.nm ▸ hx) (A.cs ▸ hl) ho e0 h1.1.v h1.2 hb hp
      · cases h
    · cases h⟩
theorem TS.app (hx : names[i]? = some x) (hn : okName x = true) (he : TE K fa cs names e e') (hl : (ap.endLine == cp.line) = true) : TS K fa cs names (.app i e) (.Expr (.Call (.Attribute (.Name x p) (Str.ofString "append") ap) [e'] [] cp) pos) :=
  ⟨fun A fr fr' fl h => by
    simp only [xx1, xx2, xx3, xx4, xx5, xx6, xx7, xx8, xx9, xx10, xx11, xx12, xx13, xx14, xx15, xx16] at h
    split at h
    · rename_i ho
      split at h
      · cases h
      · rename_i r fr1 e1
        simp only [Option.map_eq_some_iff] at h
        obtain ⟨sl, hs, e2⟩ := h
        cases e2
        have h1 := he.snd A e1
        exact sok_app A.ok (A.nm ▸ hx) hn hl (he.pl.star _ _) h1.1.v h1.2 (ownedAt_own ho) hs
    · cases h⟩
theorem TS.rev (hx : names[i]? = some x) (hn : okName x = true) (hl : (ap.endLine == cp.line) = true) : TS K fa cs names (.rev i) (.Expr (.Call (.Attribute (.Name x p) (Str.ofString "reverse") ap) [] [] cp) pos) :=
  ⟨fun A fr fr' fl h => by
    simp only [xx1, xx2, xx3, xx4, xx5, xx6, xx7, xx8, xx9, xx10, xx11, xx12, xx13, xx14, xx15, xx16, Option.map_eq_some_iff] at h
    obtain ⟨sl, hs, e2⟩ := h
    cases e2
    exact sok_rev A.ok (A.nm ▸ hx) hn hl hs⟩
theorem TS.ex (he : TE K fa cs names e e') : TS K fa cs names (.ex e) (.Expr e' pos) :=
  ⟨fun A fr fr' fl h => by
    simp only [xx1, xx2, xx3, xx4, xx5, xx6, xx7, xx8, xx9, xx10, xx11, xx12, xx13, xx14, xx15, xx16] at h
    split at h
    · rename_i fr1 e1
      cases h
      have h1 := he.snd A e1
      exact sok_ex A.ok h1.1.v h1.2 fun t l => he.pl.swaps t l _
    · cases h⟩
theorem TS.ite (hb : TB K fa cs names b b') (hs : TSs K fa cs names s s') (ht : TSs K fa cs names t t') : TS K fa cs names (.ite b s t) (.If b' s' t' pos) :=
  ⟨fun A fr fr' fl h => by
    simp only [xx1, xx2, xx3, xx4, xx5, xx6, xx7, xx8, xx9, xx10, xx11, xx12, xx13, xx14, xx15, xx16] at h
    split at h
    · cases h
    · rename_i fr1 e1
      have h1 := hb.snd A e1
      exact sok_ite h1.1 h1.2 (hs.snd A h)
    · rename_i fr1 e1
      have h1 := hb.snd A e1
      exact sok_ite h1.1 h1.2 (ht.snd A h)⟩
theorem TS.wh (hb : TB K fa cs names b b') (hs : TSs K fa cs names s s') : TS K fa cs names (.wh b s) (.While b' s' [] pos) :=
  ⟨fun A fr fr' fl h => by
    simp only [xx1, xx2, xx3, xx4, xx5, xx6, xx7, xx8, xx9, xx10, xx11, xx12, xx13, xx14, xx15, xx16] at h
    exact sok_wh A.ok (fun f t f1 e1 => hb.snd A e1) (fun f fl f1 e1 => hs.snd A e1) h⟩
theorem TS.forR1 (hb : BName K cs (Str.ofString "range")) (hx : names[i]? = some x) (hl : cs.names.lookup x = some .local) (he : TE K fa cs names hi hi') (hs : TSs K fa cs names s s') :
    TS K fa cs names (.forR 1 i (.int 0) hi s) (.For (.Name x p) (.Call (.Name (Str.ofString "range") q) [hi'] [] cp) s' [] pos) :=
  ⟨fun A fr fr' fl h => by
    obtain ⟨rfl, rfl, rfl, rfl, ok, hC⟩ := A
    simp only [xx1, xx2, xx3, xx4, xx5, xx6, xx7, xx8, xx9, xx10, xx11, xx12, xx13, xx14, xx15, xx16, ee1, ee2, ee3, ee4, ee5, ee6, ee7, ee8, ee9, ee10, ee11, ee12, ee13, ee14, ee15, ee16, ee17, ee18, ee19] at h
    split at h
    · rename_i b fr1 e1
      split at h
      · rename_i hc
        have h1 := he.snd ⟨rfl, rfl, rfl, rfl, ok, hC⟩ e1
        exact sok_forR1 ok hb hx hl (fun _ => he.pl.star _ _) h1.1.v h1.2 hc.2 (fun f fl f1 e1 => hs.snd ⟨rfl, rfl, rfl, rfl, ok, hC⟩ e1) h
      · cases h
    · cases h⟩
theorem TS.forR2 (hb : BName K cs (Str.ofString "range")) (hx : names[i]? = some x) (hl : cs.names.lookup x = some .local) (h0 : TE K fa cs names lo lo') (he : TE K fa cs names hi hi') (hs : TSs K fa cs names s s') :
    TS K fa cs names (.forR 2 i lo hi s) (.For (.Name x p) (.Call (.Name (Str.ofString "range") q) [lo', hi'] [] cp) s' [] pos) :=
  ⟨fun A fr fr' fl h => by
    obtain ⟨rfl, rfl, rfl, rfl, ok, hC⟩ := A
    simp only [xx1, xx2, xx3, xx4, xx5, xx6, xx7, xx8, xx9, xx10, xx11, xx12, xx13, xx14, xx15, xx16] at h
    split at h
    · rename_i a fr1 e0
      split at h
      · rename_i b fr2 e1
        split at h
        · rename_i hc
          have g0 := h0.snd ⟨rfl, rfl, rfl, rfl, ok, hC⟩ e0
          have h1 := he.snd ⟨rfl, rfl, rfl, rfl, ok, hC⟩ e1
          exact sok_forR2 ok hb hx hl (fun _ => he.pl.star _ _) (fun _ => h0.pl.star _ _) g0.1.v g0.2 h1.1.v h1.2 hc.1 hc.2 (fun f fl f1 e1 => hs.snd ⟨rfl, rfl, rfl, rfl, ok, hC⟩ e1) h
        · cases h
      · cases h
    · cases h⟩
theorem TS.forR3 {p1 p2 : Pos} (hb : BName K cs (Str.ofString "range")) (hx : names[i]? = some x) (hl : cs.names.lookup x = some .local) (h0 : TE K fa cs names lo lo') (he : TE K fa cs names hi hi') (hs : TSs K fa cs names s s') :
    TS K fa cs names (.forR 3 i lo hi s) (.For (.Name x p) (.Call (.Name (Str.ofString "range") q) [lo', hi', .UnaryOp .USub (.Constant (.int 1) k p1) p2] [] cp) s' [] pos) :=
  ⟨fun A fr fr' fl h => by
    obtain ⟨rfl, rfl, rfl, rfl, ok, hC⟩ := A
    simp only [xx1, xx2, xx3, xx4, xx5, xx6, xx7, xx8, xx9, xx10, xx11, xx12, xx13, xx14, xx15, xx16] at h
    split at h
    · rename_i a fr1 e0
      split at h
      · rename_i b fr2 e1
        split at h
        · rename_i hc
          have g0 := h0.snd ⟨rfl, rfl, rfl, rfl, ok, hC⟩ e0
          have h1 := he.snd ⟨rfl, rfl, rfl, rfl, ok, hC⟩ e1
          exact sok_forR3 ok hb hx hl (fun _ => he.pl.star _ _) (fun _ => h0.pl.star _ _) g0.1.v g0.2 h1.1.v h1.2 hc.1 hc.2 (fun f fl f1 e1 => hs.snd ⟨rfl, rfl, rfl, rfl, ok, hC⟩ e1) h
        · cases h
      · cases h
    · cases h⟩
theorem TS.forL (hx : names[i]? = some x) (hl : cs.names.lookup x = some .local) (he : TE K fa cs names e e') (hs : TSs K fa cs names s s') : TS K fa cs names (.forL i e s) (.For (.Name x p) e' s' [] pos) :=
  ⟨fun A fr fr' fl h => by
    simp only [xx1, xx2, xx3, xx4, xx5, xx6, xx7, xx8, xx9, xx10, xx11, xx12, xx13, xx14, xx15, xx16] at h
    split at h
    · rename_i vs fr1 e1
      split at h
      · rename_i hc
        have h1 := he.snd A e1
        exact sok_forL A.ok (A.nm ▸ hx) (A.cs ▸ hl) h1.1.v h1.2 (fun v => he.pl.folded _ _) hc (fun f fl f1 e1 => hs.snd A e1) h
      · cases h
    · cases h⟩
theorem TS.forE {p1 p2 p3 : Pos} (hb : BName K cs (Str.ofString "enumerate")) (hx : names[i]? = some x) (hl : cs.names.lookup x = some .local) (hy : names[j]? = some y) (hl' : cs.names.lookup y = some .local) (he : TE K fa cs names e e') (hs : TSs K fa cs names s s') :
    TS K fa cs names (.forE i j e s) (.For (.Tuple [.Name x p1, .Name y p2] k p3) (.Call (.Name (Str.ofString "enumerate") q) [e'] [] cp) s' [] pos) :=
  ⟨fun A fr fr' fl h => by
    obtain ⟨rfl, rfl, rfl, rfl, ok, hC⟩ := A
    simp only [xx1, xx2, xx3, xx4, xx5, xx6, xx7, xx8, xx9, xx10, xx11, xx12, xx13, xx14, xx15, xx16] at h
    split at h
    · rename_i vs fr1 e1
      split at h
      · rename_i hc
        have h1 := he.snd ⟨rfl, rfl, rfl, rfl, ok, hC⟩ e1
        exact sok_forE ok hb hx hl hy hl' (fun _ => he.pl.star _ _) h1.1.v h1.2 hc (fun f fl f1 e1 => hs.snd ⟨rfl, rfl, rfl, rfl, ok, hC⟩ e1) h
      · cases h
    · cases h⟩
theorem TS.ret (he : TE K fa cs names e e') : TS K fa cs names (.ret e) (.Return (some e') pos) :=
  ⟨fun A fr fr' fl h => by
    simp only [xx1, xx2, xx3, xx4, xx5, xx6, xx7, xx8, xx9, xx10, xx11, xx12, xx13, xx14, xx15, xx16, Option.map_eq_some_iff] at h
    obtain ⟨⟨r, fr1⟩, e1, e2⟩ := h
    cases e2
    have h1 := he.snd A e1
    exact sok_ret h1.1.v h1.2⟩
theorem TS.cont : TS K fa cs names .cont (.Continue pos) :=
  ⟨fun A fr fr' fl h => by
    simp only [xx1, xx2, xx3, xx4, xx5, xx6, xx7, xx8, xx9, xx10, xx11, xx12, xx13, xx14, xx15, xx16] at h
    cases h
    exact sok_cont⟩
theorem TS.raise {e c : Option Expr} : TS K fa cs names .raise (.Raise e c pos) := ⟨fun A fr fr' fl h => by simp only [xx1, xx2, xx3, xx4, xx5, xx6, xx7, xx8, xx9, xx10, xx11, xx12, xx13, xx14, xx15, xx16] at h; cases h⟩
theorem TSs.nil : TSs K fa cs names .nil [] :=
  ⟨fun A fr fr' fl h => by
    simp only [xl1, xl2] at h
    cases h
    exact sok_nil⟩
theorem TSs.cons {st : IS} {ss : ISs} {st' : Stmt} {ss' : List Stmt} (hs : TS K fa cs names st st') (hr : TSs K fa cs names ss ss') : TSs K fa cs names (.cons st ss) (st' :: ss') :=
  ⟨fun A fr fr' fl h => by
    simp only [xl1, xl2] at h
    split at h
    · cases h
    · rename_i fr1 e1
      exact sok_cons (hs.snd A e1) (hr.snd A h)
    · rename_i fr1 e1
      cases h
      exact sok_stop (hs.snd A e1) (by intro q; cases q)
    · rename_i v fr1 e1
      cases h
      exact sok_stop (hs.snd A e1) (by intro q; cases q)⟩
end
section
variable {c : Cx} {d : Nat} {Z : Led} {C : CallF} (ok : CxOk c d) (hC : CallSound c.prog c.w c.K c.p c.loose c.mean c.mg c.mb c.fa Z C d)
include ok hC
theorem soundE (e : IE) {e' : Expr} {fr fr' : Frame} {r : R} (h : TE c.K c.fa c.cs c.names e e') (g : evalE C e fr = some (r, fr')) : EOk c Z e' fr r fr' := (h.snd ⟨rfl, rfl, rfl, rfl, ok, hC⟩ g).1
theorem soundB (b : IB) {b' : Expr} {fr fr' : Frame} {t : Bool} (h : TB c.K c.fa c.cs c.names b b') (g : evalB C b fr = some (t, fr')) : TOk c Z b' fr t fr' := (h.snd ⟨rfl, rfl, rfl, rfl, ok, hC⟩ g).1
theorem soundEs (es : IEs) {es' : List Expr} {fr fr' : Frame} {rs : List R} (h : TEs c.K c.fa c.cs c.names es es') (g : evalEs C es fr = some (rs, fr')) : LOk c Z es' fr (rs.map R.v) fr' := (h.snd ⟨rfl, rfl, rfl, rfl, ok, hC⟩ g).1
theorem soundRs {es : IEs} {es' : List Expr} {fr fr' : Frame} {rs : List R} (h : TEs c.K c.fa c.cs c.names es es') (g : evalEs C es fr = some (rs, fr')) : LROk c Z es' fr rs fr' := h.sndR ⟨rfl, rfl, rfl, rfl, ok, hC⟩ g
theorem soundS (st : IS) {st' : Stmt} {fr fr' : Frame} {fl : Fl} (h : TS c.K c.fa c.cs c.names st st') (g : xS C st fr = some (fl, fr')) : SOk c Z (exec st' c.env) fr fl fr' := h.snd ⟨rfl, rfl, rfl, rfl, ok, hC⟩ g
theorem soundSs (ss : ISs) {ss' : List Stmt} {fr fr' : Frame} {fl : Fl} (h : TSs c.K c.fa c.cs c.names ss ss') (g : xSs C ss fr = some (fl, fr')) : SOk c Z (execs ss' c.env) fr fl fr' := h.snd ⟨rfl, rfl, rfl, rfl, ok, hC⟩ g
end
end Mine
end PSnd10

section PSnd11
set_option maxRecDepth 100000
open PySem PySem.W PySem.Spec PySem.Calls PyProof.Rows
namespace Mine

inductive CapsOk (fa : Nat → Addr) (Z : Led) (scope : Scope) (cl : List (Str × Addr)) : List V → List Str → Prop
  | nil : CapsOk fa Z scope cl [] []
  | cons {v : V} {x : Str} {vs : List V} {xs : List Str} {a : Addr} {o : Obj} {vv : Value} (h1 : scope.names.lookup x = some .free) (h2 : cl.lookup x = some a) (h3 : (a, o) ∈ Z) (h4 : o.data = .cell (some vv)) (h5 : Val fa Z v vv)
      (hr : CapsOk fa Z scope cl vs xs) : CapsOk fa Z scope cl (v :: vs) (x :: xs)

set_option genInjectivity false in
structure FnD (K : Frag) (fa : Nat → Addr) (Z : Led) (k : Nat) (fd : FDef) where
  name : Str
  qual : Str
  params : Arguments
  body : List Stmt
  scope : Scope
  cl : List (Str × Addr)
  dV : Value
  kV : Value
  doc : Value
  pm : Value
  cdv : Value
  ct : Value
  oc : Value
  an : Option Addr
  od : Option Addr
  osl : Array (Option Value)
  pn : List Str
  cn : List Str
  mn : List Str
  obj : ∀ h : Heap, K.In h → (∀ q ∈ Z, h.get? q.1 = some q.2) → h.get? (fa k) = some ⟨oc, od, .func (fnX name qual params body scope cl dV kV doc pm an cdv ct), osl⟩ ∧ h.CodeRec cdv qual
  bind : ∀ (s : Shared) (args : List Value), args.length = pn.length → BindsTo s (fnX name qual params body scope cl dV kV doc pm an cdv ct) ⟨args, []⟩ (pn.zip args)
  npn : pn.length = (if fd.io then 1 else 0) + fd.nargs
  loc : ∀ y ∈ pn, scope.names.lookup y = some .local
  caps : CapsOk fa Z scope cl fd.caps cn
  ncell : ∀ x ∈ scope.names, x.2 ≠ .cell
  nco : scope.isCoroutine = false
  ngen : scope.isGenerator = false
  kind : scope.kind = .function
  nod : (pn ++ cn ++ mn).Nodup
  more : mn.length = fd.more
  tss : TSs K fa scope (pn ++ cn ++ mn) fd.body body

noncomputable def Sls (P : Str → Slot → Prop) (fr : Frame) (ns : List Str) : Prop := fr.length = ns.length ∧ ∀ (i : Nat) (s : Slot) (x : Str), fr[i]? = some s → ns[i]? = some x → P x s
theorem Sls.append {P : Str → Slot → Prop} {fr fr' : Frame} {ns ns' : List Str} (h : Sls P fr ns) (h' : Sls P fr' ns') : Sls P (fr ++ fr') (ns ++ ns') := by
  refine ⟨by simp [h.1, h'.1], fun i s x e1 e2 => ?_⟩
  by_cases hi : i < fr.length
  · rw [List.getElem?_append_left hi] at e1
    rw [List.getElem?_append_left (by rw [← h.1]; exact hi)] at e2
    exact h.2 i s x e1 e2
  · rw [List.getElem?_append_right (by with_reducible exact Nat.not_lt.mp (by assumption))] at e1
    rw [List.getElem?_append_right (by rw [← h.1]; with_reducible exact Nat.not_lt.mp (by assumption))] at e2
    rw [h.1] at e1
    exact h'.2 _ s x e1 e2

theorem CapsOk.len {fa : Nat → Addr} {Z : Led} {scope : Scope} {cl : List (Str × Addr)} {vs : List V} {xs : List Str} (h : CapsOk fa Z scope cl vs xs) : vs.length = xs.length := by
  induction h with
  | nil => rfl
  | cons _ _ _ _ _ _ ih => simp [ih]
theorem CapsOk.get {fa : Nat → Addr} {Z : Led} {scope : Scope} {cl : List (Str × Addr)} {vs : List V} {xs : List Str} (h : CapsOk fa Z scope cl vs xs) : ∀ {i : Nat} {v : V} {x : Str}, vs[i]? = some v → xs[i]? = some x →
    ∃ a o vv, scope.names.lookup x = some .free ∧ cl.lookup x = some a ∧ (a, o) ∈ Z ∧ o.data = .cell (some vv) ∧ Val fa Z v vv := by
  induction h with
  | nil => intro i v x e; simp at e
  | cons h1 h2 h3 h4 h5 _ ih =>
    intro i v x e1 e2
    cases i with
    | zero => simp at e1 e2; subst e1; subst e2; exact ⟨_, _, _, h1, h2, h3, h4, h5⟩
    | succ i => exact ih (by simpa using e1) (by simpa using e2)

theorem lookup_nd {β : Type} : ∀ {cs : List (Str × β)} {n : Str} {c : β}, (cs.map (·.1)).Nodup → (n, c) ∈ cs → cs.lookup n = some c
  | (n', c') :: cs, n, c, hnd, hm => by
    rw [List.map_cons, List.nodup_cons] at hnd
    rcases List.mem_cons.mp hm with e | hm
    · cases e; simp
    · have hne : n ≠ n' := fun e => hnd.1 (e ▸ List.mem_map.mpr ⟨(n, c), hm, rfl⟩)
      rw [List.lookup_cons, beq_eq_false_iff_ne.mpr hne]
      exact lookup_nd hnd.2 hm

theorem lookup_rev {ns : List Str} {vs : List Value} (hn : ns.Nodup) {i : Nat} {x : Str} {v : Value} (hx : ns[i]? = some x) (hv : vs[i]? = some v) : (ns.zip vs).reverse.lookup x = some v := by
  have hm : (x, v) ∈ ns.zip vs := by
    refine List.mem_iff_getElem?.mpr ⟨i, ?_⟩
    rw [List.getElem?_zip_eq_some]; exact ⟨hx, hv⟩
  refine lookup_nd ?_ (List.mem_reverse.mpr hm)
  rw [List.map_reverse]
  have hs : ((ns.zip vs).map (·.1)).Sublist ns := by
    clear hm hx hv hn
    induction ns generalizing vs with
    | nil => simp
    | cons a ns ih => cases vs with
      | nil => simp
      | cons b vs => simpa using ih
  exact List.pairwise_reverse.mpr ((hn.sublist hs).imp fun h => Ne.symm h)

section
variable {prog : Program} {w : World} {K : Frag} {p : Program} {loose : List Str} {mean : ExcName → Option Value} {mg mb : Str → Option Value} {fa : Nat → Addr} {Z : Led} {T : Nat → Option FDef}

theorem call_core {k d : Nat} {fd : FDef} {io : Option (List V)} {args : List V} {r : V} {o : List V} {fl : Fl} {fr' : Frame} (D : FnD K fa Z k fd) (hio : io.isSome = fd.io) (hargs : args.length = fd.nargs) {C : CallF} (hC : CallSound prog w K p loose mean mg mb fa Z C d)
    (hx : xSs C fd.body (fd.frame (io.getD []) args) = some (fl, fr')) (hv : fl.val = some r) (ho : ioOf fd fr' = some o)
    {env : Env} {L : Addr} {outer : List Env} {A A₀ : Around} {base h₀ : Heap} {m : Str → Option Value} {fz ex : Led} {s : Shared} {ws : List Value} {ia : Addr} {Q : Value → Shared → Prop}
    (hf : env.frame = some L) (hke : env.scope.kind = .function) (hh : A.handled = none) (hA : A.frames = some (env :: outer)) (hdep : A.depth + (d + 1) < recursionLimit) (hun : A.units + 8 * (d + 1) + 100 < cLine)
    (B : Below A₀ base outer h₀) (X : K.In h₀) (T' : Top p loose mean mg mb h₀) (F : Fr h₀ L s.heap m) (N : News h₀ L s.heap (fz ++ ex)) (dis : ∀ q ∈ fz, ∀ r ∈ ex, q.1 ≠ r.1) (hz : ∀ q ∈ Z, q ∈ fz)
    (hvs : Vals fa fz args ws) (hown : ∀ vs, io = some vs → OwnAt fa h₀ L s.heap fz ex ia vs)
    (kk : ∀ rv fz' h' tk', (∀ q ∈ fz, q ∈ fz') → Fr h₀ L h' m → News h₀ L h' (fz' ++ ex) → (∀ q ∈ fz', ∀ r ∈ ex, q.1 ≠ r.1) → Val fa fz' r rv → (io.isSome = true → OwnAt fa h₀ L h' fz' ex ia o) → Q rv { s with heap := h', toks := tk' }) :
    wpAny (model prog w) A (call (.ref (fa k)) (if io.isSome then .ref ia :: ws else ws)) Q NoE s := by
  have hsz : ∀ q ∈ Z, s.heap.get? q.1 = some q.2 := fun q hq => (N q (List.mem_append_left _ (hz q hq))).1
  obtain ⟨hobj, hcd⟩ := D.obj s.heap (X.keeps F.keep) hsz
  have hl := hvs.length
  have hlen : (if io.isSome then Value.ref ia :: ws else ws).length = D.pn.length := by
    rw [D.npn, ← hio]
    cases io <;> simp [hl, hargs] <;> omega
  obtain ⟨ie, hie, hieK⟩ : ∃ ie : Led, News h₀ L s.heap (ie ++ (fz ++ ex)) ∧ ∀ vs, io = some vs → ∃ its n, (ia, W.listOf (its : List Value).toArray n) ∈ ie ∧ Vals fa fz vs its := by
    cases io with
    | none => exact ⟨[], N, fun vs e => by cases e⟩
    | some vs =>
      have O := hown vs rfl
      obtain ⟨its, n, eg, hv⟩ := O.get
      refine ⟨[(ia, W.listOf its.toArray n)], fun q hq => ?_, fun vs' e => ?_⟩
      · rcases List.mem_cons.mp hq with rfl | hq
        · exact ⟨eg, O.ne, O.new⟩
        · exact N q hq
      · cases e; exact ⟨its, n, .head _, hv⟩
  refine wpAny_call (callX_plain (cl := D.cl) B F hie T'.nolimit hA hf hke hobj rfl hcd (by with_reducible exact Nat.lt_of_le_of_lt (Nat.le_add_right _ _) (by assumption)) (D.bind s _ hlen) (fun y hy => D.loc _ (List.of_mem_zip hy).1) (fun g L' h₁ FG F' N' B' st hlt => ?_) D.ncell D.nco D.ngen D.kind)
  let c' : Cx := Cx.mk prog w K p loose mean mg mb fa D.qual D.scope L' (fa k) D.cdv D.cl (D.pn ++ D.cn ++ D.mn) (A.deeper (envX D.qual D.scope L' (fa k) D.cdv D.cl)) A base g (env :: outer)
  have ok : CxOk c' d := ⟨B', X.keeps st, T'.keeps st, hh, (by show A.frames.map _ = _; rw [hA]; rfl), (by show A.depth + 1 + d < _; omega), (by show A.units + 3 + 8 * d + 100 < _; omega), D.kind, D.nod⟩
  let m' : Str → Option Value := fun y => (D.pn.zip (if io.isSome then Value.ref ia :: ws else ws)).reverse.lookup y
  have hnp : D.pn.Nodup := (List.nodup_append.mp (List.nodup_append.mp D.nod).1).1
  have hmm : ∀ {i : Nat} {x : Str} {v : Value}, D.pn[i]? = some x → (if io.isSome then Value.ref ia :: ws else ws)[i]? = some v → m' x = some v := fun h1 h2 => lookup_rev hnp h1 h2
  have NF : News g L' h₁ (fz ++ ex) := fun q hq => N' q (List.mem_append_right _ hq)
  have hown1 : ∀ vs, io = some vs → OwnAt fa g L' h₁ fz ex ia vs := fun vs e => by
    obtain ⟨its, n, hm, hv⟩ := hieK vs e
    have q := N' _ (List.mem_append_left _ hm)
    have O := hown vs e
    exact ⟨⟨its, n, q.1, hv⟩, q.2.1, q.2.2, O.offF, O.offE⟩
  have hP : Sls (SlotOk c' h₁ m' fz ex) ((if fd.io then [.io (io.getD [])] else []) ++ args.map .val) D.pn := by
    refine ⟨by rw [D.npn, List.length_append, List.length_map, hargs]; cases fd.io <;> simp, fun i sl x e1 e2 => ?_⟩
    have hxl := D.loc x (List.mem_of_getElem? e2)
    cases io with
    | none =>
      have hfd : fd.io = false := by simpa using hio.symm
      rw [hfd] at e1
      simp only [Bool.false_eq_true, if_false, List.nil_append, List.getElem?_map, Option.map_eq_some_iff] at e1
      obtain ⟨v, e3, rfl⟩ := e1
      obtain ⟨vv, e4, hv⟩ := hvs.get e3
      exact ⟨vv, .inl ⟨hxl, hmm e2 (by simpa using e4)⟩, hv⟩
    | some vs =>
      have hfd : fd.io = true := by simpa using hio.symm
      rw [hfd] at e1
      cases i with
      | zero =>
        simp at e1
        subst e1
        exact ⟨hxl, ia, hmm e2 (by simp), hown1 vs rfl⟩
      | succ i =>
        simp only [if_true, List.cons_append, List.nil_append, List.getElem?_cons_succ, List.getElem?_map, Option.map_eq_some_iff] at e1
        obtain ⟨v, e3, rfl⟩ := e1
        obtain ⟨vv, e4, hv⟩ := hvs.get e3
        exact ⟨vv, .inl ⟨hxl, hmm e2 (by simpa using e4)⟩, hv⟩
  have hC2 : Sls (SlotOk c' h₁ m' fz ex) (fd.caps.map .val) D.cn := by
    refine ⟨by simp [D.caps.len], fun i sl x e1 e2 => ?_⟩
    simp only [List.getElem?_map, Option.map_eq_some_iff] at e1
    obtain ⟨v, e3, rfl⟩ := e1
    obtain ⟨a, o', vv, q1, q2, q3, q4, q5⟩ := D.caps.get e3 e2
    exact ⟨vv, .inr ⟨.inl q1, a, o', q2, hz _ q3, q4⟩, q5.mono hz⟩
  have hM : Sls (SlotOk c' h₁ m' fz ex) (List.replicate fd.more .unset) D.mn := by
    refine ⟨by simp [D.more], fun i sl x e1 e2 => ?_⟩
    obtain ⟨_, e⟩ := List.getElem?_eq_some_iff.mp e1
    simp at e; subst e; trivial
  have hAll := (hP.append hC2).append hM
  have hfr : fd.frame (io.getD []) args = ((if fd.io then [Slot.io (io.getD [])] else []) ++ args.map .val) ++ fd.caps.map .val ++ List.replicate fd.more .unset := rfl
  have own0 : ∀ (i : Nat) (sl : Slot), (fd.frame (io.getD []) args)[i]? = some sl → sl.owned = true → i = 0 := fun i sl e ho => by
    cases i with
    | zero => rfl
    | succ i =>
      exfalso
      have hm : sl ∈ args.map Slot.val ++ fd.caps.map .val ++ List.replicate fd.more .unset := by
        unfold FDef.frame at e
        cases hfd : fd.io
        · rw [hfd] at e
          simp only [Bool.false_eq_true, if_false, List.nil_append] at e
          exact List.mem_of_getElem? e
        · rw [hfd] at e
          simp only [if_true, List.cons_append, List.nil_append, List.getElem?_cons_succ] at e
          exact List.mem_of_getElem? e
      rcases List.mem_append.mp hm with hm | hm
      · rcases List.mem_append.mp hm with hm | hm
        · obtain ⟨v, _, rfl⟩ := List.mem_map.mp hm; cases ho
        · obtain ⟨v, _, rfl⟩ := List.mem_map.mp hm; cases ho
      · rw [(List.mem_replicate.mp hm).2] at ho; cases ho
  have S0 : FSt c' h₁ m' fz ex (fd.frame (io.getD []) args) := by
    refine ⟨F', NF, dis, fun i sl e => ?_, fun i j t u x y a b hij e1 e2 o1 o2 => ?_⟩
    · have hlt : i < (D.pn ++ D.cn ++ D.mn).length := by rw [← hAll.1, ← hfr]; exact (List.getElem?_eq_some_iff.mp e).1
      exact ⟨_, List.getElem?_eq_getElem hlt, hAll.2 i sl _ e (List.getElem?_eq_getElem hlt)⟩
    · exact absurd ((own0 i t e1 o1).trans (own0 j u e2 o2).symm) hij
  refine wpAny_mono (soundSs ok hC fd.body D.tss hx m' fz ex { s with heap := h₁, toks := s.toks + (D.pn.zip (if io.isSome then Value.ref ia :: ws else ws)).length } (Q := fun fl s' => LeaveK h₀ L m g (fun r s' => match r with | .ok (.ret v) => Q v s' | .ok _ => False | .error e => NoE e s') (match fl with | .ret v => v | _ => .none) s') S0 hz ?_) (fun _ _ q => q) (fun _ _ q => False.elim q)
  intro flv m2 fz2 h2 t2 hs S2 io2 fv
  have hv2 : Val fa fz2 r (match (generalizing := false) flv with | .ret v => v | _ => .none) := by
    cases fl <;> cases flv <;> simp only [FlV] at fv <;> simp only [Fl.val] at hv <;> cases hv
    · exact .none
    · exact fv
  obtain ⟨ie2, hie2, hie2K⟩ : ∃ ie2 : Led, News g L' h2 (ie2 ++ (fz2 ++ ex)) ∧ (io.isSome = true → ∃ its n, (ia, W.listOf (its : List Value).toArray n) ∈ ie2 ∧ Vals fa fz2 o its ∧ (∀ q ∈ fz2, q.1 ≠ ia) ∧ ∀ q ∈ ex, q.1 ≠ ia) := by
    cases io with
    | none => exact ⟨[], S2.N, fun e => by cases e⟩
    | some vs =>
      have hfd : fd.io = true := by simpa using hio.symm
      have e0 : (fd.frame vs args)[0]? = some (.io vs) := by unfold FDef.frame; rw [hfd]; rfl
      have hp0 : ∃ x, D.pn[0]? = some x := by
        have : 0 < D.pn.length := by rw [D.npn, hfd]; simp; omega
        exact ⟨_, List.getElem?_eq_getElem this⟩
      obtain ⟨x, hx0⟩ := hp0
      have hx0' : c'.names[0]? = some x := by
        have : 0 < D.pn.length := (List.getElem?_eq_some_iff.mp hx0).1
        show (D.pn ++ D.cn ++ D.mn)[0]? = some x
        rw [List.append_assoc, List.getElem?_append_left this]; exact hx0
      obtain ⟨em, vs', e1⟩ := io2 0 vs x e0 hx0'
      have hm0 : m' x = some (.ref ia) := hmm hx0 (by simp)
      have hov : vs' = o := by
        unfold ioOf at ho
        rw [hfd] at ho
        simp only [if_true, e1, ioSlot] at ho
        exact Option.some.inj ho
      subst hov
      obtain ⟨y, hy, O⟩ := S2.sl 0 _ e1
      rw [hx0'] at hy; cases hy
      obtain ⟨_, a, ea, O⟩ := O
      rw [em, hm0] at ea; cases ea
      obtain ⟨its, n, eg, hvo⟩ := O.get
      refine ⟨[(ia, W.listOf its.toArray n)], fun q hq => ?_, fun _ => ⟨its, n, .head _, hvo, O.offF, O.offE⟩⟩
      rcases List.mem_cons.mp hq with rfl | hq
      · exact ⟨eg, O.ne, O.new⟩
      · exact S2.N q hq
  refine leaveK_ S2.F hie2 fun F3 N3 => ?_
  refine kk _ fz2 h2 t2 hs F3 (fun q hq => N3 q (List.mem_append_right _ hq)) S2.dis hv2 fun hi => ?_
  obtain ⟨its, n, hm, hvo, o1, o2⟩ := hie2K hi
  have q := N3 _ (List.mem_append_left _ hm)
  exact ⟨⟨its, n, q.1, hvo⟩, q.2.1, q.2.2, o1, o2⟩

theorem callSound (hT : ∀ k fd, T k = some fd → Nonempty (FnD K fa Z k fd)) : ∀ d : Nat, CallSound prog w K p loose mean mg mb fa Z (callI T d) d
  | 0 => ⟨fun g io args r h => (by cases h), fun k io args r io' h => (by cases h)⟩
  | d + 1 => by
    have hC := callSound hT d
    refine ⟨fun g io args r h => ?_, fun k io args r io' h => ?_⟩
    · cases g with
      | fn k =>
        refine ca1_inv h fun fd _ _ hk _ _ _ _ _ => ?_
        obtain ⟨D⟩ := hT k fd hk
        refine ⟨k, rfl, fun h' fz X hfz hz => ?_⟩
        obtain ⟨hobj, _⟩ := D.obj h' X fun q hq => hfz q (hz q hq)
        exact ⟨_, _, _, _, hobj⟩
      | _ => cases h
    · refine ca1_inv h fun fd fl fr' hk hc1 hc2 hx hv ho => ?_
      obtain ⟨D⟩ := hT k fd hk
      intro env L outer A A₀ base h₀ m fz ex s ws ia Q hf hke hh hA hdep hun B X T' F N dis hz hvs hown kk
      exact call_core D hc1 hc2 hC hx hv ho hf hke hh hA hdep hun B X T' F N dis hz hvs hown kk
end
end Mine
end PSnd11

section PFnBase
set_option maxRecDepth 100000
open PySem PySem.W PySem.Spec PySem.Calls PyProof.Rows
namespace Mine

theorem lenS {α : Type} {l : List α} {n : Nat} (h : l.length = n + 1) : ∃ a t, l = a :: t ∧ t.length = n := by
  cases l with
  | nil => cases h
  | cons a t => exact ⟨a, t, rfl, Nat.succ.inj h⟩
theorem len0 {α : Type} {l : List α} (h : l.length = 0) : l = [] := List.eq_nil_of_length_eq_zero h
theorem len1 {α : Type} {l : List α} (h : l.length = 1) : ∃ a, l = [a] := by
  obtain ⟨a, t, rfl, h2⟩ := lenS h
  exact ⟨a, by rw [len0 h2]⟩
theorem len2 {α : Type} {l : List α} (h : l.length = 2) : ∃ a b, l = [a, b] := by
  obtain ⟨a, t, rfl, h2⟩ := lenS h
  obtain ⟨b, rfl⟩ := len1 h2
  exact ⟨a, b, rfl⟩
theorem len3 {α : Type} {l : List α} (h : l.length = 3) : ∃ a b c, l = [a, b, c] := by
  obtain ⟨a, t, rfl, h2⟩ := lenS h
  obtain ⟨b, c, rfl⟩ := len2 h2
  exact ⟨a, b, c, rfl⟩
theorem len4 {α : Type} {l : List α} (h : l.length = 4) : ∃ a b c d, l = [a, b, c, d] := by
  obtain ⟨a, t, rfl, h2⟩ := lenS h
  obtain ⟨b, c, d, rfl⟩ := len3 h2
  exact ⟨a, b, c, d, rfl⟩
theorem len5 {α : Type} {l : List α} (h : l.length = 5) : ∃ a b c d e, l = [a, b, c, d, e] := by
  obtain ⟨a, t, rfl, h2⟩ := lenS h
  obtain ⟨b, c, d, e, rfl⟩ := len4 h2
  exact ⟨a, b, c, d, e, rfl⟩
theorem len6 {α : Type} {l : List α} (h : l.length = 6) : ∃ a b c d e f, l = [a, b, c, d, e, f] := by
  obtain ⟨a, t, rfl, h2⟩ := lenS h
  obtain ⟨b, c, d, e, f, rfl⟩ := len5 h2
  exact ⟨a, b, c, d, e, f, rfl⟩
theorem bt1 {fd : FuncData} {pn : List Str} (h : ∀ a : Value, bindArgs fd ⟨[a], []⟩ = pure (pn.zip [a])) : ∀ (s : Shared) (args : List Value), args.length = 1 → BindsTo s fd ⟨args, []⟩ (pn.zip args) := by
  intro s args hh
  obtain ⟨a, rfl⟩ := len1 hh
  exact BindsTo.of_eq (h a)
theorem bt2 {fd : FuncData} {pn : List Str} (h : ∀ a b : Value, bindArgs fd ⟨[a, b], []⟩ = pure (pn.zip [a, b])) : ∀ (s : Shared) (args : List Value), args.length = 2 → BindsTo s fd ⟨args, []⟩ (pn.zip args) := by
  intro s args hh
  obtain ⟨a, b, rfl⟩ := len2 hh
  exact BindsTo.of_eq (h a b)
theorem bt3 {fd : FuncData} {pn : List Str} (h : ∀ a b c : Value, bindArgs fd ⟨[a, b, c], []⟩ = pure (pn.zip [a, b, c])) : ∀ (s : Shared) (args : List Value), args.length = 3 → BindsTo s fd ⟨args, []⟩ (pn.zip args) := by
  intro s args hh
  obtain ⟨a, b, c, rfl⟩ := len3 hh
  exact BindsTo.of_eq (h a b c)
theorem bt4 {fd : FuncData} {pn : List Str} (h : ∀ a b c d : Value, bindArgs fd ⟨[a, b, c, d], []⟩ = pure (pn.zip [a, b, c, d])) : ∀ (s : Shared) (args : List Value), args.length = 4 → BindsTo s fd ⟨args, []⟩ (pn.zip args) := by
  intro s args hh
  obtain ⟨a, b, c, d, rfl⟩ := len4 hh
  exact BindsTo.of_eq (h a b c d)
theorem bt5 {fd : FuncData} {pn : List Str} (h : ∀ a b c d e : Value, bindArgs fd ⟨[a, b, c, d, e], []⟩ = pure (pn.zip [a, b, c, d, e])) : ∀ (s : Shared) (args : List Value), args.length = 5 → BindsTo s fd ⟨args, []⟩ (pn.zip args) := by
  intro s args hh
  obtain ⟨a, b, c, d, e, rfl⟩ := len5 hh
  exact BindsTo.of_eq (h a b c d e)
theorem bt6 {fd : FuncData} {pn : List Str} (h : ∀ a b c d e f : Value, bindArgs fd ⟨[a, b, c, d, e, f], []⟩ = pure (pn.zip [a, b, c, d, e, f])) : ∀ (s : Shared) (args : List Value), args.length = 6 → BindsTo s fd ⟨args, []⟩ (pn.zip args) := by
  intro s args hh
  obtain ⟨a, b, c, d, e, f, rfl⟩ := len6 hh
  exact BindsTo.of_eq (h a b c d e f)

theorem fnd_of {K : Frag} {fa : Nat → Addr} {Z : Led} {k : Nat} {fd : FDef} (pn mn : List Str) {f : Addr} {name qual : Str} {params : Arguments} {body : List Stmt} {scope : Scope} {dV kV doc pm cdv ct oc : Value} {an od : Option Addr} {osl : Array (Option Value)}
    (ho : K.lookup f = some ⟨oc, od, .func (fnX name qual params body scope [] dV kV doc pm an cdv ct), osl⟩) (hf : fa k = f) (hcd : codeIn K cdv qual = true)
    (hb : ∀ (s : Shared) (args : List Value), args.length = pn.length → BindsTo s (fnX name qual params body scope [] dV kV doc pm an cdv ct) ⟨args, []⟩ (pn.zip args))
    (npn : pn.length = (if fd.io then 1 else 0) + fd.nargs) (loc : (pn.all fun y => decide (scope.names.lookup y = some .local)) = true) (hc : fd.caps = []) (ncell : (scope.names.all fun x => decide (x.2 ≠ .cell)) = true)
    (nco : scope.isCoroutine = false) (ngen : scope.isGenerator = false) (kind : scope.kind = .function) (nod : decide (pn ++ [] ++ mn).Nodup = true) (more : mn.length = fd.more) (tss : TSs K fa scope (pn ++ [] ++ mn) fd.body body) : Nonempty (FnD K fa Z k fd) :=
  ⟨{ name := name, qual := qual, params := params, body := body, scope := scope, cl := [], dV := dV, kV := kV, doc := doc, pm := pm, cdv := cdv, ct := ct, oc := oc, an := an, od := od, osl := osl, pn := pn, cn := [], mn := mn
     obj := fun h X _ => ⟨hf ▸ X _ _ ho, codeRec_of X hcd⟩, bind := hb, npn := npn, loc := fun y hy => of_decide_eq_true (List.all_eq_true.mp loc y hy), caps := hc ▸ .nil, ncell := fun x hx => of_decide_eq_true (List.all_eq_true.mp ncell x hx)
     nco := nco, ngen := ngen, kind := kind, nod := of_decide_eq_true nod, more := more, tss := tss }⟩

theorem fill_it : PySem.Challenge.rw_sa0347_01 = PySem.Challenge.rw_sa0347_01 ∧ hK = hK := by
  k_fill
  exact ⟨rfl, rfl⟩
end Mine
end PFnBase

section PFnDefs
namespace Mine
noncomputable def fa (q : Nat) (k : Nat) : Nat := if k = 50 then q else ([58, 65, 72, 79, 86, 93, 100, 107, 114, 121, 128, 135, 142, 149, 156, 163, 170, 177, 184, 191, 198, 205, 212, 219, 226, 233, 240, 247, 254, 275, 282, 289, 296, 303, 310, 317, 324, 331, 343] : List Nat)[k]?.getD 0

noncomputable def l_normal_1t : IB := (.and (.cmp .gt (.var 1) (.int 0)) (.cmp .eq (.idxv 0 (.bin .sub (.var 1) (.int 1))) (.int 0)))
noncomputable def l_normal_1b : ISs := (.cons (.aug 1 .sub (.int 1))
  .nil)
noncomputable def l_normal_1 : IS := .wh l_normal_1t l_normal_1b
noncomputable def b_normal : ISs := (.cons (.asg 1 (.lenv 0))
  (.cons l_normal_1
  (.cons (.ret (.slc 0 .none (.var 1)))
  .nil)))
noncomputable abbrev d_normal : FDef := ⟨false, 1, [], 1, b_normal⟩

noncomputable def l_nat_of_1t : IB := (.cmp .gt (.var 0) (.int 0))
noncomputable def l_nat_of_1b : ISs := (.cons (.app 2 (.bin .band (.var 0) (.var 3)))
  (.cons (.aug 0 .shr (.var 1))
  .nil))
noncomputable def l_nat_of_1 : IS := .wh l_nat_of_1t l_nat_of_1b
noncomputable def b_nat_of : ISs := (.cons (.ite (.cmp .lt (.var 0) (.int 0)) (.cons .raise
  .nil) .nil)
  (.cons (.asgS [2, 3] (.cons (.list .nil) (.cons (.bin .sub (.bin .shl (.int 1) (.var 1)) (.int 1)) .nil)))
  (.cons l_nat_of_1
  (.cons (.ret (.var 2))
  .nil))))
noncomputable abbrev d_nat_of : FDef := ⟨false, 2, [], 2, b_nat_of⟩

noncomputable def l_compare_1b : ISs := (.cons (.ite (.cmp .ne (.idxv 0 (.var 2)) (.idxv 1 (.var 2))) (.cons (.ret (.ite (.cmp .lt (.idxv 0 (.var 2)) (.idxv 1 (.var 2))) (.neg (.int 1)) (.int 1)))
  .nil) .nil)
  .nil)
noncomputable def l_compare_1 : IS := .forR 3 2 (.bin .sub (.lenv 0) (.int 1)) (.neg (.int 1)) l_compare_1b
noncomputable def b_compare : ISs := (.cons (.ite (.cmp .ne (.lenv 0) (.lenv 1)) (.cons (.ret (.ite (.cmp .lt (.lenv 0) (.lenv 1)) (.neg (.int 1)) (.int 1)))
  .nil) .nil)
  (.cons l_compare_1
  (.cons (.ret (.int 0))
  .nil)))
noncomputable abbrev d_compare : FDef := ⟨false, 2, [], 1, b_compare⟩

noncomputable def l_add_1b : ISs := (.cons (.aug 5 .add (.idxv 0 (.var 3)))
  (.cons (.app 4 (.bin .band (.var 5) (.var 6)))
  (.cons (.aug 5 .shr (.var 2))
  .nil)))
noncomputable def l_add_1 : IS := .forR 2 3 (.lenv 1) (.lenv 0) l_add_1b
noncomputable def l_add_2b : ISs := (.cons (.aug 5 .add (.bin .add (.idxv 0 (.var 3)) (.idxv 1 (.var 3))))
  (.cons (.app 4 (.bin .band (.var 5) (.var 6)))
  (.cons (.aug 5 .shr (.var 2))
  .nil)))
noncomputable def l_add_2 : IS := .forR 1 3 (.int 0) (.lenv 1) l_add_2b
noncomputable def b_add : ISs := (.cons (.ite (.cmp .lt (.lenv 0) (.lenv 1)) (.cons (.asgS [0, 1] (.cons (.var 1) (.cons (.var 0) .nil)))
  .nil) .nil)
  (.cons (.asgS [4, 5, 6] (.cons (.list .nil) (.cons (.int 0) (.cons (.bin .sub (.bin .shl (.int 1) (.var 2)) (.int 1)) .nil))))
  (.cons l_add_2
  (.cons l_add_1
  (.cons (.ite (.cmp .gt (.var 5) (.int 0)) (.cons (.app 4 (.var 5))
  .nil) .nil)
  (.cons (.ret (.var 4))
  .nil))))))
noncomputable abbrev d_add : FDef := ⟨false, 3, [], 4, b_add⟩

noncomputable def l_sub_1b : ISs := (.cons (.asg 7 (.bin .sub (.bin .sub (.idxv 0 (.var 3)) (.var 5)) (.ite (.cmp .lt (.var 3) (.lenv 1)) (.idxv 1 (.var 3)) (.int 0))))
  (.cons (.asg 5 (.ite (.cmp .lt (.var 7) (.int 0)) (.int 1) (.int 0)))
  (.cons (.app 4 (.ite (.cmp .lt (.var 7) (.int 0)) (.bin .add (.var 7) (.var 6)) (.var 7)))
  .nil)))
noncomputable def l_sub_1 : IS := .forR 1 3 (.int 0) (.lenv 0) l_sub_1b
noncomputable def b_sub : ISs := (.cons (.ite (.cmp .lt (.call (.gl 2) (.cons (.var 0) (.cons (.var 1) .nil))) (.int 0)) (.cons .raise
  .nil) .nil)
  (.cons (.asgS [4, 5, 6] (.cons (.list .nil) (.cons (.int 0) (.cons (.bin .shl (.int 1) (.var 2)) .nil))))
  (.cons l_sub_1
  (.cons (.ret (.call (.gl 0) (.cons (.var 4) .nil)))
  .nil))))
noncomputable abbrev d_sub : FDef := ⟨false, 3, [], 5, b_sub⟩

noncomputable def l_mul_limb_1b : ISs := (.cons (.aug 5 .add (.bin .mul (.var 3) (.var 1)))
  (.cons (.app 4 (.bin .band (.var 5) (.var 6)))
  (.cons (.aug 5 .shr (.var 2))
  .nil)))
noncomputable def l_mul_limb_1 : IS := .forL 3 (.var 0) l_mul_limb_1b
noncomputable def b_mul_limb : ISs := (.cons (.ite (.cmp .eq (.var 1) (.int 0)) (.cons (.ret (.list .nil))
  .nil) .nil)
  (.cons (.asgS [4, 5, 6] (.cons (.list .nil) (.cons (.int 0) (.cons (.bin .sub (.bin .shl (.int 1) (.var 2)) (.int 1)) .nil))))
  (.cons l_mul_limb_1
  (.cons (.ite (.cmp .gt (.var 5) (.int 0)) (.cons (.app 4 (.var 5))
  .nil) .nil)
  (.cons (.ret (.var 4))
  .nil)))))
noncomputable abbrev d_mul_limb : FDef := ⟨false, 3, [], 4, b_mul_limb⟩

noncomputable def l_divrem_limb_1b : ISs := (.cons (.asg 5 (.bin .bor (.bin .shl (.var 5) (.var 2)) (.idxv 0 (.var 3))))
  (.cons (.seti 4 (.var 3) (.bin .div (.var 5) (.var 1)))
  (.cons (.aug 5 .mod (.var 1))
  .nil)))
noncomputable def l_divrem_limb_1 : IS := .forR 3 3 (.bin .sub (.lenv 0) (.int 1)) (.neg (.int 1)) l_divrem_limb_1b
noncomputable def b_divrem_limb : ISs := (.cons (.ite (.cmp .eq (.var 1) (.int 0)) (.cons .raise
  .nil) .nil)
  (.cons (.asgS [4, 5] (.cons (.bin .mul (.list (.cons (.int 0) .nil)) (.lenv 0)) (.cons (.int 0) .nil)))
  (.cons l_divrem_limb_1
  (.cons (.ret (.tup (.cons (.call (.gl 0) (.cons (.var 4) .nil)) (.cons (.var 5) .nil))))
  .nil))))
noncomputable abbrev d_divrem_limb : FDef := ⟨false, 3, [], 3, b_divrem_limb⟩

noncomputable def l_shift_left_1b : ISs := (.cons (.aug 7 .bor (.bin .shl (.var 3) (.var 5)))
  (.cons (.app 6 (.bin .band (.var 7) (.var 8)))
  (.cons (.aug 7 .shr (.var 2))
  .nil)))
noncomputable def l_shift_left_1 : IS := .forL 3 (.var 0) l_shift_left_1b
noncomputable def b_shift_left : ISs := (.cons (.ite (.cmp .eq (.lenv 0) (.int 0)) (.cons (.ret (.list .nil))
  .nil) .nil)
  (.cons (.asgS [4, 5] (.cons (.bin .div (.var 1) (.var 2)) (.cons (.bin .mod (.var 1) (.var 2)) .nil)))
  (.cons (.asgS [6, 7, 8] (.cons (.bin .mul (.list (.cons (.int 0) .nil)) (.var 4)) (.cons (.int 0) (.cons (.bin .sub (.bin .shl (.int 1) (.var 2)) (.int 1)) .nil))))
  (.cons l_shift_left_1
  (.cons (.ite (.cmp .gt (.var 7) (.int 0)) (.cons (.app 6 (.var 7))
  .nil) .nil)
  (.cons (.ret (.var 6))
  .nil))))))
noncomputable abbrev d_shift_left : FDef := ⟨false, 3, [], 6, b_shift_left⟩

noncomputable def l_shift_right_1b : ISs := (.cons (.asg 8 (.ite (.cmp .lt (.bin .add (.var 3) (.int 1)) (.lenv 0)) (.idxv 0 (.bin .add (.var 3) (.int 1))) (.int 0)))
  (.cons (.app 6 (.bin .band (.bin .bor (.bin .shr (.idxv 0 (.var 3)) (.var 5)) (.bin .shl (.var 8) (.bin .sub (.var 2) (.var 5)))) (.var 7)))
  .nil))
noncomputable def l_shift_right_1 : IS := .forR 2 3 (.var 4) (.lenv 0) l_shift_right_1b
noncomputable def b_shift_right : ISs := (.cons (.asgS [4, 5] (.cons (.bin .div (.var 1) (.var 2)) (.cons (.bin .mod (.var 1) (.var 2)) .nil)))
  (.cons (.asgS [6, 7] (.cons (.list .nil) (.cons (.bin .sub (.bin .shl (.int 1) (.var 2)) (.int 1)) .nil)))
  (.cons l_shift_right_1
  (.cons (.ret (.call (.gl 0) (.cons (.var 6) .nil)))
  .nil))))
noncomputable abbrev d_shift_right : FDef := ⟨false, 3, [], 6, b_shift_right⟩

noncomputable def b_bits : ISs := (.cons (.ret (.ite (.cmp .gt (.lenv 0) (.int 0)) (.bin .add (.bin .mul (.bin .sub (.lenv 0) (.int 1)) (.var 1)) (.bitlen (.idxv 0 (.neg (.int 1))))) (.int 0)))
  .nil)
noncomputable abbrev d_bits : FDef := ⟨false, 2, [], 0, b_bits⟩

noncomputable def b_bit : ISs := (.cons (.ret (.ite (.cmp .lt (.bin .div (.var 1) (.var 2)) (.lenv 0)) (.bin .band (.bin .shr (.idxv 0 (.bin .div (.var 1) (.var 2))) (.bin .mod (.var 1) (.var 2))) (.int 1)) (.int 0)))
  .nil)
noncomputable abbrev d_bit : FDef := ⟨false, 3, [], 0, b_bit⟩

noncomputable def b_check_base : ISs := (.cons (.ite (.cmp .lt (.var 0) (.int 2)) (.cons .raise
  .nil) .nil)
  .nil)
noncomputable abbrev d_check_base : FDef := ⟨false, 1, [], 0, b_check_base⟩

noncomputable def b_digit_off : ISs := (.cons (.ite (.cmp .lt (.var 1) (.bin .shl (.int 1) (.var 2))) (.cons (.ret (.call (.gl 6) (.cons (.var 0) (.cons (.var 1) (.cons (.var 2) .nil)))))
  .nil) .nil)
  (.cons (.asgU [4, 5] (.call (.var 3) (.cons (.var 0) (.cons (.call (.gl 1) (.cons (.var 1) (.cons (.var 2) .nil))) (.cons (.var 2) .nil)))))
  (.cons (.ret (.tup (.cons (.var 4) (.cons (.call (.gl 11) (.cons (.var 5) (.cons (.var 2) .nil))) .nil))))
  .nil)))
noncomputable abbrev d_digit_off : FDef := ⟨false, 4, [], 2, b_digit_off⟩

noncomputable def l_digits_plain_1t : IB := (.cmp .gt (.lenv 0) (.int 0))
noncomputable def l_digits_plain_1b : ISs := (.cons (.asgU [0, 5] (.call (.gl 13) (.cons (.var 0) (.cons (.var 1) (.cons (.var 2) (.cons (.var 3) .nil))))))
  (.cons (.app 4 (.var 5))
  .nil))
noncomputable def l_digits_plain_1 : IS := .wh l_digits_plain_1t l_digits_plain_1b
noncomputable def b_digits_plain : ISs := (.cons (.asg 4 (.list .nil))
  (.cons l_digits_plain_1
  (.cons (.rev 4)
  (.cons (.ret (.var 4))
  .nil))))
noncomputable abbrev d_digits_plain : FDef := ⟨false, 4, [], 2, b_digits_plain⟩

noncomputable def l_base_powers_1t : IB := (.cmp .le (.call (.gl 2) (.cons (.var 5) (.cons (.var 0) .nil))) (.int 0))
noncomputable def l_base_powers_1b : ISs := (.cons (.app 4 (.var 5))
  (.cons (.asg 5 (.call (.var 3) (.cons (.var 5) (.cons (.var 5) (.cons (.var 2) .nil)))))
  .nil))
noncomputable def l_base_powers_1 : IS := .wh l_base_powers_1t l_base_powers_1b
noncomputable def b_base_powers : ISs := (.cons (.asgS [4, 5] (.cons (.list .nil) (.cons (.call (.gl 1) (.cons (.var 1) (.cons (.var 2) .nil))) .nil)))
  (.cons l_base_powers_1
  (.cons (.ret (.var 4))
  .nil)))
noncomputable abbrev d_base_powers : FDef := ⟨false, 4, [], 2, b_base_powers⟩

noncomputable def b_with_noughts : ISs := (.cons (.ret (.bin .add (.bin .mul (.list (.cons (.int 0) .nil)) (.bin .sub (.var 1) (.lenv 0))) (.var 0)))
  .nil)
noncomputable abbrev d_with_noughts : FDef := ⟨false, 2, [], 0, b_with_noughts⟩

noncomputable def b_digits_by_powers : ISs := (.cons (.ite (.or (.cmp .le (.lenv 0) (.var 4)) (.cmp .eq (.lenv 1) (.int 0))) (.cons (.ret (.call (.gl 14) (.cons (.var 0) (.cons (.var 2) (.cons (.var 3) (.cons (.var 5) .nil))))))
  .nil) .nil)
  (.cons (.asgS [7, 8, 9] (.cons (.idxv 1 (.neg (.int 1))) (.cons (.slc 1 .none (.neg (.int 1))) (.cons (.bin .shl (.int 1) (.bin .sub (.lenv 1) (.int 1))) .nil))))
  (.cons (.ite (.cmp .lt (.call (.gl 2) (.cons (.var 0) (.cons (.var 7) .nil))) (.int 0)) (.cons (.ret (.call (.gl 17) (.cons (.var 0) (.cons (.var 8) (.cons (.var 2) (.cons (.var 3) (.cons (.var 4) (.cons (.var 5) .nil))))))))
  .nil) .nil)
  (.cons (.asgU [10, 11] (.call (.var 5) (.cons (.var 0) (.cons (.var 7) (.cons (.var 3) .nil)))))
  (.cons (.asg 6 (.call (.gl 17) (.cons (.var 10) (.cons (.var 8) (.cons (.var 2) (.cons (.var 3) (.cons (.var 4) (.cons (.var 5) .nil))))))))
  (.cons (.ret (.bin .add (.var 6) (.call (.gl 16) (.cons (.call (.gl 17) (.cons (.var 11) (.cons (.var 8) (.cons (.var 2) (.cons (.var 3) (.cons (.var 4) (.cons (.var 5) .nil))))))) (.cons (.var 9) .nil)))))
  .nil))))))
noncomputable abbrev d_digits_by_powers : FDef := ⟨false, 6, [], 6, b_digits_by_powers⟩

noncomputable def b_to_digits : ISs := (.cons (.ex (.call (.gl 12) (.cons (.var 1) .nil)))
  (.cons (.asg 6 (.ite (.cmp .gt (.lenv 0) (.var 3)) (.call (.gl 15) (.cons (.var 0) (.cons (.var 1) (.cons (.var 2) (.cons (.var 5) .nil))))) (.list .nil)))
  (.cons (.ret (.call (.gl 17) (.cons (.var 0) (.cons (.var 6) (.cons (.var 1) (.cons (.var 2) (.cons (.var 3) (.cons (.var 4) .nil))))))))
  .nil)))
noncomputable abbrev d_to_digits : FDef := ⟨false, 6, [], 1, b_to_digits⟩

noncomputable def b_times_base : ISs := (.cons (.ret (.ite (.cmp .lt (.var 1) (.bin .shl (.int 1) (.var 2))) (.call (.gl 5) (.cons (.var 0) (.cons (.var 1) (.cons (.var 2) .nil)))) (.call (.var 3) (.cons (.var 0) (.cons (.call (.gl 1) (.cons (.var 1) (.cons (.var 2) .nil))) (.cons (.var 2) .nil))))))
  .nil)
noncomputable abbrev d_times_base : FDef := ⟨false, 4, [], 0, b_times_base⟩

noncomputable def l_number_plain_1b : ISs := (.cons (.asg 4 (.call (.gl 3) (.cons (.call (.gl 19) (.cons (.var 4) (.cons (.var 1) (.cons (.var 2) (.cons (.var 3) .nil))))) (.cons (.call (.gl 1) (.cons (.var 5) (.cons (.var 2) .nil))) (.cons (.var 2) .nil)))))
  .nil)
noncomputable def l_number_plain_1 : IS := .forL 5 (.var 0) l_number_plain_1b
noncomputable def b_number_plain : ISs := (.cons (.asg 4 (.list .nil))
  (.cons l_number_plain_1
  (.cons (.ret (.var 4))
  .nil)))
noncomputable abbrev d_number_plain : FDef := ⟨false, 4, [], 2, b_number_plain⟩

noncomputable def l_number_by_powers_1t : IB := (.and (.cmp .ge (.var 6) (.int 0)) (.cmp .ge (.bin .shl (.int 1) (.var 6)) (.lenv 0)))
noncomputable def l_number_by_powers_1b : ISs := (.cons (.asg 6 (.bin .sub (.var 6) (.int 1)))
  .nil)
noncomputable def l_number_by_powers_1 : IS := .wh l_number_by_powers_1t l_number_by_powers_1b
noncomputable def b_number_by_powers : ISs := (.cons (.asg 6 (.bin .sub (.lenv 1) (.int 1)))
  (.cons l_number_by_powers_1
  (.cons (.ite (.or (.cmp .le (.lenv 0) (.var 4)) (.cmp .lt (.var 6) (.int 0))) (.cons (.ret (.call (.gl 20) (.cons (.var 0) (.cons (.var 2) (.cons (.var 3) (.cons (.var 5) .nil))))))
  .nil) .nil)
  (.cons (.asg 7 (.bin .sub (.lenv 0) (.bin .shl (.int 1) (.var 6))))
  (.cons (.asg 8 (.call (.gl 21) (.cons (.slc 0 .none (.var 7)) (.cons (.var 1) (.cons (.var 2) (.cons (.var 3) (.cons (.var 4) (.cons (.var 5) .nil))))))))
  (.cons (.asg 9 (.call (.gl 21) (.cons (.slc 0 (.var 7) .none) (.cons (.var 1) (.cons (.var 2) (.cons (.var 3) (.cons (.var 4) (.cons (.var 5) .nil))))))))
  (.cons (.ret (.call (.gl 3) (.cons (.call (.var 5) (.cons (.var 8) (.cons (.idxv 1 (.var 6)) (.cons (.var 3) .nil)))) (.cons (.var 9) (.cons (.var 3) .nil)))))
  .nil)))))))
noncomputable abbrev d_number_by_powers : FDef := ⟨false, 6, [], 4, b_number_by_powers⟩

noncomputable def l_from_digits_1t : IB := (.cmp .lt (.bin .shl (.int 2) (.bin .sub (.lenv 6) (.int 1))) (.lenv 0))
noncomputable def l_from_digits_1b : ISs := (.cons (.app 6 (.call (.var 4) (.cons (.idxv 6 (.neg (.int 1))) (.cons (.idxv 6 (.neg (.int 1))) (.cons (.var 2) .nil)))))
  .nil)
noncomputable def l_from_digits_1 : IS := .wh l_from_digits_1t l_from_digits_1b
noncomputable def l_from_digits_2b : ISs := (.cons (.ite (.not (.cmp2 .le .lt (.int 0) (.var 5) (.var 1))) (.cons .raise
  .nil) .nil)
  .nil)
noncomputable def l_from_digits_2 : IS := .forL 5 (.var 0) l_from_digits_2b
noncomputable def b_from_digits : ISs := (.cons (.ex (.call (.gl 12) (.cons (.var 1) .nil)))
  (.cons l_from_digits_2
  (.cons (.asg 6 (.list .nil))
  (.cons (.ite (.cmp .gt (.lenv 0) (.max (.var 3) (.int 1))) (.cons (.app 6 (.call (.gl 1) (.cons (.var 1) (.cons (.var 2) .nil))))
  (.cons l_from_digits_1
  .nil)) .nil)
  (.cons (.ret (.call (.gl 21) (.cons (.var 0) (.cons (.var 6) (.cons (.var 1) (.cons (.var 2) (.cons (.var 3) (.cons (.var 4) .nil))))))))
  .nil)))))
noncomputable abbrev d_from_digits : FDef := ⟨false, 5, [], 2, b_from_digits⟩

noncomputable def l_power_1b : ISs := (.cons (.asg 4 (.call (.var 3) (.cons (.var 4) (.cons (.var 4) (.cons (.var 2) .nil)))))
  (.cons (.ite (.cmp .eq (.bin .band (.bin .shr (.var 1) (.var 5)) (.int 1)) (.int 1)) (.cons (.asg 4 (.call (.var 3) (.cons (.var 4) (.cons (.var 0) (.cons (.var 2) .nil)))))
  .nil) .nil)
  .nil))
noncomputable def l_power_1 : IS := .forR 3 5 (.bin .sub (.bitlen (.var 1)) (.int 1)) (.neg (.int 1)) l_power_1b
noncomputable def b_power : ISs := (.cons (.ite (.cmp .lt (.var 1) (.int 0)) (.cons .raise
  .nil) .nil)
  (.cons (.asg 4 (.list (.cons (.int 1) .nil)))
  (.cons l_power_1
  (.cons (.ret (.var 4))
  .nil))))
noncomputable abbrev d_power : FDef := ⟨false, 4, [], 2, b_power⟩

noncomputable def l_odd_powers_1b : ISs := (.cons (.app 4 (.call (.var 2) (.cons (.idxv 4 (.neg (.int 1))) (.cons (.var 5) .nil))))
  .nil)
noncomputable def l_odd_powers_1 : IS := .forR 1 3 (.int 0) (.bin .sub (.bin .shl (.int 1) (.bin .sub (.var 1) (.int 1))) (.int 1)) l_odd_powers_1b
noncomputable def b_odd_powers : ISs := (.cons (.asgS [4, 5] (.cons (.list (.cons (.var 0) .nil)) (.cons (.call (.var 2) (.cons (.var 0) (.cons (.var 0) .nil))) .nil)))
  (.cons l_odd_powers_1
  (.cons (.ret (.var 4))
  .nil)))
noncomputable abbrev d_odd_powers : FDef := ⟨false, 3, [], 3, b_odd_powers⟩

noncomputable def l_window_at_1b : ISs := (.cons (.asg 5 (.bin .add (.bin .mul (.int 2) (.var 5)) (.call (.gl 10) (.cons (.var 0) (.cons (.var 6) (.cons (.var 3) .nil))))))
  .nil)
noncomputable def l_window_at_1 : IS := .forR 3 6 (.var 1) (.bin .sub (.var 4) (.int 1)) l_window_at_1b
noncomputable def l_window_at_2t : IB := (.cmp .eq (.call (.gl 10) (.cons (.var 0) (.cons (.var 4) (.cons (.var 3) .nil)))) (.int 0))
noncomputable def l_window_at_2b : ISs := (.cons (.aug 4 .add (.int 1))
  .nil)
noncomputable def l_window_at_2 : IS := .wh l_window_at_2t l_window_at_2b
noncomputable def b_window_at : ISs := (.cons (.asg 4 (.max (.bin .add (.bin .sub (.var 1) (.var 2)) (.int 1)) (.int 0)))
  (.cons l_window_at_2
  (.cons (.asg 5 (.int 0))
  (.cons l_window_at_1
  (.cons (.ret (.tup (.cons (.var 5) (.cons (.bin .add (.bin .sub (.var 1) (.var 4)) (.int 1)) .nil))))
  .nil)))))
noncomputable abbrev d_window_at : FDef := ⟨false, 4, [], 3, b_window_at⟩

noncomputable def l_by_windows_1b : ISs := (.cons (.asg 8 (.call (.var 5) (.cons (.var 8) (.cons (.var 8) .nil))))
  .nil)
noncomputable def l_by_windows_1 : IS := .forR 1 11 (.int 0) (.var 10) l_by_windows_1b
noncomputable def l_by_windows_2t : IB := (.cmp .ge (.var 6) (.int 0))
noncomputable def l_by_windows_2b : ISs := (.cons (.ite (.cmp .eq (.call (.gl 10) (.cons (.var 1) (.cons (.var 6) (.cons (.var 3) .nil)))) (.int 0)) (.cons (.asg 8 (.call (.var 5) (.cons (.var 8) (.cons (.var 8) .nil))))
  (.cons (.aug 6 .sub (.int 1))
  (.cons .cont
  .nil))) .nil)
  (.cons (.asgU [9, 10] (.call (.gl 25) (.cons (.var 1) (.cons (.var 6) (.cons (.var 2) (.cons (.var 3) .nil))))))
  (.cons (.ite (.isNone (.var 8)) (.cons (.asg 8 (.idxv 7 (.bin .div (.var 9) (.int 2))))
  .nil) (.cons l_by_windows_1
  (.cons (.asg 8 (.call (.var 5) (.cons (.var 8) (.cons (.idxv 7 (.bin .div (.var 9) (.int 2))) .nil))))
  .nil)))
  (.cons (.aug 6 .sub (.var 10))
  .nil))))
noncomputable def l_by_windows_2 : IS := .wh l_by_windows_2t l_by_windows_2b
noncomputable def b_by_windows : ISs := (.cons (.ite (.eqnil 1) (.cons (.ret (.var 4))
  .nil) .nil)
  (.cons (.asgS [7, 8] (.cons (.call (.gl 24) (.cons (.var 0) (.cons (.var 2) (.cons (.var 5) .nil)))) (.cons .none .nil)))
  (.cons (.asg 6 (.bin .sub (.call (.gl 9) (.cons (.var 1) (.cons (.var 3) .nil))) (.int 1)))
  (.cons l_by_windows_2
  (.cons (.ret (.var 8))
  .nil)))))
noncomputable abbrev d_by_windows : FDef := ⟨false, 6, [], 6, b_by_windows⟩

noncomputable def b_check_modulus : ISs := (.cons (.ite (.eqnil 0) (.cons .raise
  .nil) .nil)
  .nil)
noncomputable abbrev d_check_modulus : FDef := ⟨false, 1, [], 0, b_check_modulus⟩

noncomputable def b_unit_rest : ISs := (.cons (.ret (.ite (.cmp .eq (.var 0) (.list (.cons (.int 1) .nil))) (.list .nil) (.list (.cons (.int 1) .nil))))
  .nil)
noncomputable abbrev d_unit_rest : FDef := ⟨false, 1, [], 0, b_unit_rest⟩

noncomputable def l_mul_school_1b : ISs := (.cons (.aug 7 .add (.bin .add (.idxv 3 (.bin .add (.var 5) (.var 8))) (.bin .mul (.var 6) (.var 9))))
  (.cons (.seti 3 (.bin .add (.var 5) (.var 8)) (.bin .band (.var 7) (.var 4)))
  (.cons (.aug 7 .shr (.var 2))
  .nil)))
noncomputable def l_mul_school_1 : IS := .forE 8 9 (.var 1) l_mul_school_1b
noncomputable def l_mul_school_2b : ISs := (.cons (.asg 7 (.int 0))
  (.cons l_mul_school_1
  (.cons (.seti 3 (.bin .add (.var 5) (.lenv 1)) (.var 7))
  .nil)))
noncomputable def l_mul_school_2 : IS := .forE 5 6 (.var 0) l_mul_school_2b
noncomputable def b_mul_school : ISs := (.cons (.asgS [3, 4] (.cons (.bin .mul (.list (.cons (.int 0) .nil)) (.bin .add (.lenv 0) (.lenv 1))) (.cons (.bin .sub (.bin .shl (.int 1) (.var 2)) (.int 1)) .nil)))
  (.cons l_mul_school_2
  (.cons (.ret (.call (.gl 0) (.cons (.var 3) .nil)))
  .nil)))
noncomputable abbrev d_mul_school : FDef := ⟨false, 3, [], 7, b_mul_school⟩

noncomputable def b_divrem_small : ISs := (.cons (.asgU [3, 4] (.call (.gl 6) (.cons (.var 0) (.cons (.idxv 1 (.int 0)) (.cons (.var 2) .nil)))))
  (.cons (.ret (.tup (.cons (.var 3) (.cons (.ite (.cmp .gt (.var 4) (.int 0)) (.list (.cons (.var 4) .nil)) (.list .nil)) .nil))))
  .nil))
noncomputable abbrev d_divrem_small : FDef := ⟨false, 3, [], 2, b_divrem_small⟩

noncomputable def l_guessed_limb_1t : IB := (.and (.cmp .lt (.var 5) (.var 7)) (.cmp .gt (.bin .mul (.var 4) (.var 2)) (.bin .bor (.bin .shl (.var 5) (.var 3)) (.idxv 0 (.int 0)))))
noncomputable def l_guessed_limb_1b : ISs := (.cons (.aug 4 .sub (.int 1))
  (.cons (.aug 5 .add (.var 1))
  .nil))
noncomputable def l_guessed_limb_1 : IS := .wh l_guessed_limb_1t l_guessed_limb_1b
noncomputable def b_guessed_limb : ISs := (.cons (.asgS [6, 7] (.cons (.bin .bor (.bin .shl (.idxv 0 (.int 2)) (.var 3)) (.idxv 0 (.int 1))) (.cons (.bin .shl (.int 1) (.var 3)) .nil)))
  (.cons (.asg 4 (.min (.bin .div (.var 6) (.var 1)) (.bin .sub (.var 7) (.int 1))))
  (.cons (.asg 5 (.bin .sub (.var 6) (.bin .mul (.var 4) (.var 1))))
  (.cons l_guessed_limb_1
  (.cons (.ret (.var 4))
  .nil)))))
noncomputable abbrev d_guessed_limb : FDef := ⟨false, 4, [], 4, b_guessed_limb⟩

noncomputable def l_take_away_1b : ISs := (.cons (.asg 5 (.bin .sub (.idxv 0 (.bin .add (.var 3) (.var 8))) (.bin .mod (.bin .add (.bin .mul (.var 2) (.var 9)) (.var 6)) (.var 7))))
  (.cons (.asg 6 (.bin .add (.bin .div (.bin .add (.bin .mul (.var 2) (.var 9)) (.var 6)) (.var 7)) (.ite (.cmp .lt (.var 5) (.int 0)) (.int 1) (.int 0))))
  (.cons (.seti 0 (.bin .add (.var 3) (.var 8)) (.ite (.cmp .lt (.var 5) (.int 0)) (.bin .add (.var 5) (.var 7)) (.var 5)))
  .nil)))
noncomputable def l_take_away_1 : IS := .forE 8 9 (.var 1) l_take_away_1b
noncomputable def b_take_away : ISs := (.cons (.asgS [6, 7] (.cons (.int 0) (.cons (.bin .shl (.int 1) (.var 4)) .nil)))
  (.cons l_take_away_1
  (.cons (.asg 5 (.bin .sub (.idxv 0 (.bin .add (.var 3) (.lenv 1))) (.var 6)))
  (.cons (.seti 0 (.bin .add (.var 3) (.lenv 1)) (.ite (.cmp .lt (.var 5) (.int 0)) (.bin .add (.var 5) (.var 7)) (.var 5)))
  (.cons (.ret (.ite (.cmp .lt (.var 5) (.int 0)) (.int 1) (.int 0)))
  .nil)))))
noncomputable abbrev d_take_away : FDef := ⟨true, 4, [], 5, b_take_away⟩

noncomputable def l_put_back_1b : ISs := (.cons (.aug 4 .add (.bin .add (.idxv 0 (.bin .add (.var 2) (.var 6))) (.var 7)))
  (.cons (.seti 0 (.bin .add (.var 2) (.var 6)) (.bin .band (.var 4) (.var 5)))
  (.cons (.aug 4 .shr (.var 3))
  .nil)))
noncomputable def l_put_back_1 : IS := .forE 6 7 (.var 1) l_put_back_1b
noncomputable def b_put_back : ISs := (.cons (.asgS [4, 5] (.cons (.int 0) (.cons (.bin .sub (.bin .shl (.int 1) (.var 3)) (.int 1)) .nil)))
  (.cons l_put_back_1
  (.cons (.seti 0 (.bin .add (.var 2) (.lenv 1)) (.bin .band (.bin .add (.idxv 0 (.bin .add (.var 2) (.lenv 1))) (.var 4)) (.var 5)))
  .nil)))
noncomputable abbrev d_put_back : FDef := ⟨true, 3, [], 4, b_put_back⟩

noncomputable def l_divide_rows_1b : ISs := (.cons (.asg 6 (.call (.gl 31) (.cons (.slc 0 (.bin .sub (.bin .add (.var 5) (.var 3)) (.int 2)) (.bin .add (.bin .add (.var 5) (.var 3)) (.int 1))) (.cons (.idxv 1 (.bin .sub (.var 3) (.int 1))) (.cons (.idxv 1 (.bin .sub (.var 3) (.int 2))) (.cons (.var 2) .nil))))))
  (.cons (.ite (.cmp .eq (.callio (.gl 32) 0 (.cons (.var 1) (.cons (.var 6) (.cons (.var 5) (.cons (.var 2) .nil))))) (.int 1)) (.cons (.aug 6 .sub (.int 1))
  (.cons (.ex (.callio (.gl 33) 0 (.cons (.var 1) (.cons (.var 5) (.cons (.var 2) .nil)))))
  .nil)) .nil)
  (.cons (.seti 4 (.var 5) (.var 6))
  .nil)))
noncomputable def l_divide_rows_1 : IS := .forR 3 5 (.bin .sub (.bin .sub (.lenv 0) (.var 3)) (.int 1)) (.neg (.int 1)) l_divide_rows_1b
noncomputable def b_divide_rows : ISs := (.cons (.asg 3 (.lenv 1))
  (.cons (.asg 4 (.bin .mul (.list (.cons (.int 0) .nil)) (.bin .sub (.lenv 0) (.var 3))))
  (.cons l_divide_rows_1
  (.cons (.ret (.var 4))
  .nil))))
noncomputable abbrev d_divide_rows : FDef := ⟨true, 2, [], 4, b_divide_rows⟩

noncomputable def b_divrem_school : ISs := (.cons (.ite (.cmp .eq (.lenv 1) (.int 0)) (.cons .raise
  .nil) .nil)
  (.cons (.ite (.cmp .lt (.call (.gl 2) (.cons (.var 0) (.cons (.var 1) .nil))) (.int 0)) (.cons (.ret (.tup (.cons (.list .nil) (.cons (.slc 0 .none .none) .nil))))
  .nil) .nil)
  (.cons (.ite (.cmp .eq (.lenv 1) (.int 1)) (.cons (.ret (.call (.gl 30) (.cons (.var 0) (.cons (.var 1) (.cons (.var 2) .nil)))))
  .nil) .nil)
  (.cons (.asg 3 (.bin .sub (.var 2) (.call (.gl 9) (.cons (.list (.cons (.idxv 1 (.neg (.int 1))) .nil)) (.cons (.var 2) .nil)))))
  (.cons (.asg 4 (.call (.gl 7) (.cons (.var 1) (.cons (.var 3) (.cons (.var 2) .nil)))))
  (.cons (.asg 5 (.call (.gl 7) (.cons (.var 0) (.cons (.var 3) (.cons (.var 2) .nil)))))
  (.cons (.asg 5 (.bin .add (.var 5) (.bin .mul (.list (.cons (.int 0) .nil)) (.bin .sub (.bin .add (.lenv 0) (.int 1)) (.lenv 5)))))
  (.cons (.asg 6 (.callio (.gl 34) 5 (.cons (.var 4) (.cons (.var 2) .nil))))
  (.cons (.ret (.tup (.cons (.call (.gl 0) (.cons (.var 6) .nil)) (.cons (.call (.gl 8) (.cons (.call (.gl 0) (.cons (.var 5) .nil)) (.cons (.var 3) (.cons (.var 2) .nil)))) .nil))))
  .nil)))))))))
noncomputable abbrev d_divrem_school : FDef := ⟨false, 3, [], 4, b_divrem_school⟩

noncomputable def b_law_turned : ISs := (.cons (.seti 0 (.int 0) (.bin .add (.idxv 0 (.int 0)) (.int 1)))
  (.cons (.ite (.cmp .le (.idxv 0 (.int 0)) (.lene (.idxv 0 (.int 1)))) (.cons (.ret (.bin .mod (.idxe (.idxv 0 (.int 1)) (.bin .sub (.idxv 0 (.int 0)) (.int 1))) (.var 1)))
  .nil) .nil)
  (.cons (.ret (.bin .mod (.bin .add (.bin .add (.bin .mul (.int 6) (.idxv 0 (.int 0))) (.bin .div (.idxv 0 (.int 0)) (.int 2))) (.int 7)) (.var 1)))
  .nil)))
noncomputable abbrev d_law_turned : FDef := ⟨true, 1, [], 0, b_law_turned⟩

noncomputable def l_law_limbs_1t : IB := (.cmp .gt (.var 0) (.int 0))
noncomputable def l_law_limbs_1b : ISs := (.cons (.app 2 (.bin .mod (.var 0) (.bin .pow (.int 2) (.var 1))))
  (.cons (.asg 0 (.bin .div (.var 0) (.bin .pow (.int 2) (.var 1))))
  .nil))
noncomputable def l_law_limbs_1 : IS := .wh l_law_limbs_1t l_law_limbs_1b
noncomputable def b_law_limbs : ISs := (.cons (.asg 2 (.list .nil))
  (.cons l_law_limbs_1
  (.cons (.ret (.var 2))
  .nil)))
noncomputable abbrev d_law_limbs : FDef := ⟨false, 2, [], 1, b_law_limbs⟩

noncomputable def l_law_divided_1t : IB := (.or (.cmp .ne (.var 3) (.int 1)) (.eqnil 2))
noncomputable def l_law_divided_1b : ISs := (.cons (.app 2 (.bin .div (.bin .mul (.var 3) (.var 0)) (.var 1)))
  (.cons (.asg 3 (.bin .mod (.bin .mul (.var 3) (.var 0)) (.var 1)))
  .nil))
noncomputable def l_law_divided_1 : IS := .wh l_law_divided_1t l_law_divided_1b
noncomputable def b_law_divided : ISs := (.cons (.asgS [2, 3] (.cons (.list .nil) (.cons (.int 1) .nil)))
  (.cons l_law_divided_1
  (.cons (.ret (.var 2))
  .nil)))
noncomputable abbrev d_law_divided : FDef := ⟨false, 2, [], 2, b_law_divided⟩

noncomputable def tab : List (Nat × FDef) := [(0, d_normal), (1, d_nat_of), (2, d_compare), (3, d_add), (4, d_sub), (5, d_mul_limb), (6, d_divrem_limb), (7, d_shift_left), (8, d_shift_right), (9, d_bits), (10, d_bit), (12, d_check_base), (13, d_digit_off), (14, d_digits_plain), (15, d_base_powers), (16, d_with_noughts), (17, d_digits_by_powers), (18, d_to_digits), (19, d_times_base), (20, d_number_plain), (21, d_number_by_powers), (22, d_from_digits), (23, d_power), (24, d_odd_powers), (25, d_window_at), (26, d_by_windows), (27, d_check_modulus), (28, d_unit_rest), (29, d_mul_school), (30, d_divrem_small), (31, d_guessed_limb), (32, d_take_away), (33, d_put_back), (34, d_divide_rows), (35, d_divrem_school), (36, d_law_turned), (37, d_law_limbs), (38, d_law_divided)]

end Mine
end PFnDefs

section PFnDers
set_option maxRecDepth 100000
open PySem PySem.W PySem.Spec PySem.Calls PyProof.Rows
namespace Mine
set_option maxHeartbeats 4000000 in
theorem ok_normal (q : Nat) (P : Params) (Z : Led) : Nonempty (FnD (hK P) (fa q) Z 0 d_normal) := by
  refine' fnd_of [Str.ofString "a"] [Str.ofString "end"] (f := 58) ?ho ?h1 ?h2 ?h3 ?h4 ?h5 ?h6 ?h7 ?h8 ?h9 ?h10 ?h11 ?h12 ?_
  case h3 => exact bt1 fun _ => by kernel_rfl
  (case ho => k_is)
  (case h1 => kernel_rfl)
  (case h2 => kernel_rfl)
  (case h4 => kernel_rfl)
  (case h5 => kernel_rfl)
  (case h6 => kernel_rfl)
  (case h7 => kernel_rfl)
  (case h8 => kernel_rfl)
  (case h9 => kernel_rfl)
  (case h10 => kernel_rfl)
  (case h11 => kernel_rfl)
  (case h12 => kernel_rfl)
  unfold d_normal b_normal l_normal_1 l_normal_1t l_normal_1b
  refine (.cons (.asg ?_ ?_ (.lenv ⟨?_, ?_⟩ ?_ ?_))
  (.cons (.wh (.and (.cmp (.var ?_ ?_) .int) (.cmp (.idxv ?_ ?_ (.bin (.var ?_ ?_) .int)) .int)) (.cons (.aug ?_ ?_ (.inr (.inl rfl)) .int)
  .nil))
  (.cons (.ret (.slc ?_ ?_ .none (.some (.var ?_ ?_))))
  .nil)))
  all_goals (first | kernel_rfl | (intro env h; obtain ⟨⟩ := env; dsimp only at h; subst h; kernel_rfl))

set_option maxHeartbeats 4000000 in
theorem ok_nat_of (q : Nat) (P : Params) (Z : Led) : Nonempty (FnD (hK P) (fa q) Z 1 d_nat_of) := by
  refine' fnd_of [Str.ofString "number", Str.ofString "w"] [Str.ofString "found", Str.ofString "mask"] (f := 65) ?ho ?h1 ?h2 ?h3 ?h4 ?h5 ?h6 ?h7 ?h8 ?h9 ?h10 ?h11 ?h12 ?_
  case h3 => exact bt2 fun _ _ => by kernel_rfl
  (case ho => k_is)
  (case h1 => kernel_rfl)
  (case h2 => kernel_rfl)
  (case h4 => kernel_rfl)
  (case h5 => kernel_rfl)
  (case h6 => kernel_rfl)
  (case h7 => kernel_rfl)
  (case h8 => kernel_rfl)
  (case h9 => kernel_rfl)
  (case h10 => kernel_rfl)
  (case h11 => kernel_rfl)
  (case h12 => kernel_rfl)
  unfold d_nat_of b_nat_of l_nat_of_1 l_nat_of_1t l_nat_of_1b
  refine (.cons (.ite (.cmp (.var ?_ ?_) .int) (.cons .raise
  .nil) .nil)
  (.cons (.asgS (ns := [Str.ofString "found", Str.ofString "mask"]) (.cons ?_ ?_ (.cons ?_ ?_ .nil)) ?_ (by decide) (.cons (.list (by decide) .nil) (.cons (.bin (.bin .int (.var ?_ ?_)) .int) .nil)) ?_)
  (.cons (.wh (.cmp (.var ?_ ?_) .int) (.cons (.app ?_ ?_ (.bin (.var ?_ ?_) (.var ?_ ?_)) ?_)
  (.cons (.aug ?_ ?_ (.inr (.inr (.inr (.inl rfl)))) (.var ?_ ?_))
  .nil)))
  (.cons (.ret (.var ?_ ?_))
  .nil))))
  all_goals (first | kernel_rfl | (intro env h; obtain ⟨⟩ := env; dsimp only at h; subst h; kernel_rfl))

set_option maxHeartbeats 4000000 in
theorem ok_compare (q : Nat) (P : Params) (Z : Led) : Nonempty (FnD (hK P) (fa q) Z 2 d_compare) := by
  refine' fnd_of [Str.ofString "a", Str.ofString "b"] [Str.ofString "at"] (f := 72) ?ho ?h1 ?h2 ?h3 ?h4 ?h5 ?h6 ?h7 ?h8 ?h9 ?h10 ?h11 ?h12 ?_
  case h3 => exact bt2 fun _ _ => by kernel_rfl
  (case ho => k_is)
  (case h1 => kernel_rfl)
  (case h2 => kernel_rfl)
  (case h4 => kernel_rfl)
  (case h5 => kernel_rfl)
  (case h6 => kernel_rfl)
  (case h7 => kernel_rfl)
  (case h8 => kernel_rfl)
  (case h9 => kernel_rfl)
  (case h10 => kernel_rfl)
  (case h11 => kernel_rfl)
  (case h12 => kernel_rfl)
  unfold d_compare b_compare l_compare_1 l_compare_1b
  refine (.cons (.ite (.cmp (.lenv ⟨?_, ?_⟩ ?_ ?_) (.lenv ⟨?_, ?_⟩ ?_ ?_)) (.cons (.ret (.ite (.cmp (.lenv ⟨?_, ?_⟩ ?_ ?_) (.lenv ⟨?_, ?_⟩ ?_ ?_)) (.neg .int) .int))
  .nil) .nil)
  (.cons (.forR3 ⟨?_, ?_⟩ ?_ ?_ (.bin (.lenv ⟨?_, ?_⟩ ?_ ?_) .int) (.neg .int) (.cons (.ite (.cmp (.idxv ?_ ?_ (.var ?_ ?_)) (.idxv ?_ ?_ (.var ?_ ?_))) (.cons (.ret (.ite (.cmp (.idxv ?_ ?_ (.var ?_ ?_)) (.idxv ?_ ?_ (.var ?_ ?_))) (.neg .int) .int))
  .nil) .nil)
  .nil))
  (.cons (.ret .int)
  .nil)))
  all_goals (first | kernel_rfl | (intro env h; obtain ⟨⟩ := env; dsimp only at h; subst h; kernel_rfl))

set_option maxHeartbeats 4000000 in
theorem ok_add (q : Nat) (P : Params) (Z : Led) : Nonempty (FnD (hK P) (fa q) Z 3 d_add) := by
  refine' fnd_of [Str.ofString "a", Str.ofString "b", Str.ofString "w"] [Str.ofString "at", Str.ofString "found", Str.ofString "carry", Str.ofString "mask"] (f := 79) ?ho ?h1 ?h2 ?h3 ?h4 ?h5 ?h6 ?h7 ?h8 ?h9 ?h10 ?h11 ?h12 ?_
  case h3 => exact bt3 fun _ _ _ => by kernel_rfl
  (case ho => k_is)
  (case h1 => kernel_rfl)
  (case h2 => kernel_rfl)
  (case h4 => kernel_rfl)
  (case h5 => kernel_rfl)
  (case h6 => kernel_rfl)
  (case h7 => kernel_rfl)
  (case h8 => kernel_rfl)
  (case h9 => kernel_rfl)
  (case h10 => kernel_rfl)
  (case h11 => kernel_rfl)
  (case h12 => kernel_rfl)
  unfold d_add b_add l_add_2 l_add_2b l_add_1 l_add_1b
  refine (.cons (.ite (.cmp (.lenv ⟨?_, ?_⟩ ?_ ?_) (.lenv ⟨?_, ?_⟩ ?_ ?_)) (.cons (.asgS (ns := [Str.ofString "a", Str.ofString "b"]) (.cons ?_ ?_ (.cons ?_ ?_ .nil)) ?_ (by decide) (.cons (.var ?_ ?_) (.cons (.var ?_ ?_) .nil)) ?_)
  .nil) .nil)
  (.cons (.asgS (ns := [Str.ofString "found", Str.ofString "carry", Str.ofString "mask"]) (.cons ?_ ?_ (.cons ?_ ?_ (.cons ?_ ?_ .nil))) ?_ (by decide) (.cons (.list (by decide) .nil) (.cons .int (.cons (.bin (.bin .int (.var ?_ ?_)) .int) .nil))) ?_)
  (.cons (.forR1 ⟨?_, ?_⟩ ?_ ?_ (.lenv ⟨?_, ?_⟩ ?_ ?_) (.cons (.aug ?_ ?_ (.inl rfl) (.bin (.idxv ?_ ?_ (.var ?_ ?_)) (.idxv ?_ ?_ (.var ?_ ?_))))
  (.cons (.app ?_ ?_ (.bin (.var ?_ ?_) (.var ?_ ?_)) ?_)
  (.cons (.aug ?_ ?_ (.inr (.inr (.inr (.inl rfl)))) (.var ?_ ?_))
  .nil))))
  (.cons (.forR2 ⟨?_, ?_⟩ ?_ ?_ (.lenv ⟨?_, ?_⟩ ?_ ?_) (.lenv ⟨?_, ?_⟩ ?_ ?_) (.cons (.aug ?_ ?_ (.inl rfl) (.idxv ?_ ?_ (.var ?_ ?_)))
  (.cons (.app ?_ ?_ (.bin (.var ?_ ?_) (.var ?_ ?_)) ?_)
  (.cons (.aug ?_ ?_ (.inr (.inr (.inr (.inl rfl)))) (.var ?_ ?_))
  .nil))))
  (.cons (.ite (.cmp (.var ?_ ?_) .int) (.cons (.app ?_ ?_ (.var ?_ ?_) ?_)
  .nil) .nil)
  (.cons (.ret (.var ?_ ?_))
  .nil))))))
  all_goals (first | kernel_rfl | (intro env h; obtain ⟨⟩ := env; dsimp only at h; subst h; kernel_rfl))

set_option maxHeartbeats 4000000 in
theorem ok_sub (q : Nat) (P : Params) (Z : Led) : Nonempty (FnD (hK P) (fa q) Z 4 d_sub) := by
  refine' fnd_of [Str.ofString "a", Str.ofString "b", Str.ofString "w"] [Str.ofString "at", Str.ofString "found", Str.ofString "borrow", Str.ofString "base", Str.ofString "limb"] (f := 86) ?ho ?h1 ?h2 ?h3 ?h4 ?h5 ?h6 ?h7 ?h8 ?h9 ?h10 ?h11 ?h12 ?_
  case h3 => exact bt3 fun _ _ _ => by kernel_rfl
  (case ho => k_is)
  (case h1 => kernel_rfl)
  (case h2 => kernel_rfl)
  (case h4 => kernel_rfl)
  (case h5 => kernel_rfl)
  (case h6 => kernel_rfl)
  (case h7 => kernel_rfl)
  (case h8 => kernel_rfl)
  (case h9 => kernel_rfl)
  (case h10 => kernel_rfl)
  (case h11 => kernel_rfl)
  (case h12 => kernel_rfl)
  unfold d_sub b_sub l_sub_1 l_sub_1b
  refine (.cons (.ite (.cmp (.call (.gl ?_ ?_ ?_) (.cons (.var ?_ ?_) (.cons (.var ?_ ?_) .nil))) .int) (.cons .raise
  .nil) .nil)
  (.cons (.asgS (ns := [Str.ofString "found", Str.ofString "borrow", Str.ofString "base"]) (.cons ?_ ?_ (.cons ?_ ?_ (.cons ?_ ?_ .nil))) ?_ (by decide) (.cons (.list (by decide) .nil) (.cons .int (.cons (.bin .int (.var ?_ ?_)) .nil))) ?_)
  (.cons (.forR1 ⟨?_, ?_⟩ ?_ ?_ (.lenv ⟨?_, ?_⟩ ?_ ?_) (.cons (.asg ?_ ?_ (.bin (.bin (.idxv ?_ ?_ (.var ?_ ?_)) (.var ?_ ?_)) (.ite (.cmp (.var ?_ ?_) (.lenv ⟨?_, ?_⟩ ?_ ?_)) (.idxv ?_ ?_ (.var ?_ ?_)) .int)))
  (.cons (.asg ?_ ?_ (.ite (.cmp (.var ?_ ?_) .int) .int .int))
  (.cons (.app ?_ ?_ (.ite (.cmp (.var ?_ ?_) .int) (.bin (.var ?_ ?_) (.var ?_ ?_)) (.var ?_ ?_)) ?_)
  .nil))))
  (.cons (.ret (.call (.gl ?_ ?_ ?_) (.cons (.var ?_ ?_) .nil)))
  .nil))))
  all_goals (first | kernel_rfl | (intro env h; obtain ⟨⟩ := env; dsimp only at h; subst h; kernel_rfl))

set_option maxHeartbeats 4000000 in
theorem ok_mul_limb (q : Nat) (P : Params) (Z : Led) : Nonempty (FnD (hK P) (fa q) Z 5 d_mul_limb) := by
  refine' fnd_of [Str.ofString "a", Str.ofString "limb", Str.ofString "w"] [Str.ofString "one", Str.ofString "found", Str.ofString "carry", Str.ofString "mask"] (f := 93) ?ho ?h1 ?h2 ?h3 ?h4 ?h5 ?h6 ?h7 ?h8 ?h9 ?h10 ?h11 ?h12 ?_
  case h3 => exact bt3 fun _ _ _ => by kernel_rfl
  (case ho => k_is)
  (case h1 => kernel_rfl)
  (case h2 => kernel_rfl)
  (case h4 => kernel_rfl)
  (case h5 => kernel_rfl)
  (case h6 => kernel_rfl)
  (case h7 => kernel_rfl)
  (case h8 => kernel_rfl)
  (case h9 => kernel_rfl)
  (case h10 => kernel_rfl)
  (case h11 => kernel_rfl)
  (case h12 => kernel_rfl)
  unfold d_mul_limb b_mul_limb l_mul_limb_1 l_mul_limb_1b
  refine (.cons (.ite (.cmp (.var ?_ ?_) .int) (.cons (.ret (.list (by decide) .nil))
  .nil) .nil)
  (.cons (.asgS (ns := [Str.ofString "found", Str.ofString "carry", Str.ofString "mask"]) (.cons ?_ ?_ (.cons ?_ ?_ (.cons ?_ ?_ .nil))) ?_ (by decide) (.cons (.list (by decide) .nil) (.cons .int (.cons (.bin (.bin .int (.var ?_ ?_)) .int) .nil))) ?_)
  (.cons (.forL ?_ ?_ (.var ?_ ?_) (.cons (.aug ?_ ?_ (.inl rfl) (.bin (.var ?_ ?_) (.var ?_ ?_)))
  (.cons (.app ?_ ?_ (.bin (.var ?_ ?_) (.var ?_ ?_)) ?_)
  (.cons (.aug ?_ ?_ (.inr (.inr (.inr (.inl rfl)))) (.var ?_ ?_))
  .nil))))
  (.cons (.ite (.cmp (.var ?_ ?_) .int) (.cons (.app ?_ ?_ (.var ?_ ?_) ?_)
  .nil) .nil)
  (.cons (.ret (.var ?_ ?_))
  .nil)))))
  all_goals (first | kernel_rfl | (intro env h; obtain ⟨⟩ := env; dsimp only at h; subst h; kernel_rfl))

set_option maxHeartbeats 4000000 in
theorem ok_divrem_limb (q : Nat) (P : Params) (Z : Led) : Nonempty (FnD (hK P) (fa q) Z 6 d_divrem_limb) := by
  refine' fnd_of [Str.ofString "a", Str.ofString "limb", Str.ofString "w"] [Str.ofString "at", Str.ofString "found", Str.ofString "rest"] (f := 100) ?ho ?h1 ?h2 ?h3 ?h4 ?h5 ?h6 ?h7 ?h8 ?h9 ?h10 ?h11 ?h12 ?_
  case h3 => exact bt3 fun _ _ _ => by kernel_rfl
  (case ho => k_is)
  (case h1 => kernel_rfl)
  (case h2 => kernel_rfl)
  (case h4 => kernel_rfl)
  (case h5 => kernel_rfl)
  (case h6 => kernel_rfl)
  (case h7 => kernel_rfl)
  (case h8 => kernel_rfl)
  (case h9 => kernel_rfl)
  (case h10 => kernel_rfl)
  (case h11 => kernel_rfl)
  (case h12 => kernel_rfl)
  unfold d_divrem_limb b_divrem_limb l_divrem_limb_1 l_divrem_limb_1b
  refine (.cons (.ite (.cmp (.var ?_ ?_) .int) (.cons .raise
  .nil) .nil)
  (.cons (.asgS (ns := [Str.ofString "found", Str.ofString "rest"]) (.cons ?_ ?_ (.cons ?_ ?_ .nil)) ?_ (by decide) (.cons (.bin (.list (by decide) (.cons .int .nil)) (.lenv ⟨?_, ?_⟩ ?_ ?_)) (.cons .int .nil)) ?_)
  (.cons (.forR3 ⟨?_, ?_⟩ ?_ ?_ (.bin (.lenv ⟨?_, ?_⟩ ?_ ?_) .int) (.neg .int) (.cons (.asg ?_ ?_ (.bin (.bin (.var ?_ ?_) (.var ?_ ?_)) (.idxv ?_ ?_ (.var ?_ ?_))))
  (.cons (.seti ?_ ?_ (.var ?_ ?_) (.bin (.var ?_ ?_) (.var ?_ ?_)))
  (.cons (.aug ?_ ?_ (.inr (.inr (.inl rfl))) (.var ?_ ?_))
  .nil))))
  (.cons (.ret (.tup (by decide) (.cons (.call (.gl ?_ ?_ ?_) (.cons (.var ?_ ?_) .nil)) (.cons (.var ?_ ?_) .nil))))
  .nil))))
  all_goals (first | kernel_rfl | (intro env h; obtain ⟨⟩ := env; dsimp only at h; subst h; kernel_rfl))

set_option maxHeartbeats 4000000 in
theorem ok_shift_left (q : Nat) (P : Params) (Z : Led) : Nonempty (FnD (hK P) (fa q) Z 7 d_shift_left) := by
  refine' fnd_of [Str.ofString "a", Str.ofString "n", Str.ofString "w"] [Str.ofString "one", Str.ofString "spots", Str.ofString "few", Str.ofString "found", Str.ofString "carry", Str.ofString "mask"] (f := 107) ?ho ?h1 ?h2 ?h3 ?h4 ?h5 ?h6 ?h7 ?h8 ?h9 ?h10 ?h11 ?h12 ?_
  case h3 => exact bt3 fun _ _ _ => by kernel_rfl
  (case ho => k_is)
  (case h1 => kernel_rfl)
  (case h2 => kernel_rfl)
  (case h4 => kernel_rfl)
  (case h5 => kernel_rfl)
  (case h6 => kernel_rfl)
  (case h7 => kernel_rfl)
  (case h8 => kernel_rfl)
  (case h9 => kernel_rfl)
  (case h10 => kernel_rfl)
  (case h11 => kernel_rfl)
  (case h12 => kernel_rfl)
  unfold d_shift_left b_shift_left l_shift_left_1 l_shift_left_1b
  refine (.cons (.ite (.cmp (.lenv ⟨?_, ?_⟩ ?_ ?_) .int) (.cons (.ret (.list (by decide) .nil))
  .nil) .nil)
  (.cons (.asgS (ns := [Str.ofString "spots", Str.ofString "few"]) (.cons ?_ ?_ (.cons ?_ ?_ .nil)) ?_ (by decide) (.cons (.bin (.var ?_ ?_) (.var ?_ ?_)) (.cons (.bin (.var ?_ ?_) (.var ?_ ?_)) .nil)) ?_)
  (.cons (.asgS (ns := [Str.ofString "found", Str.ofString "carry", Str.ofString "mask"]) (.cons ?_ ?_ (.cons ?_ ?_ (.cons ?_ ?_ .nil))) ?_ (by decide) (.cons (.bin (.list (by decide) (.cons .int .nil)) (.var ?_ ?_)) (.cons .int (.cons (.bin (.bin .int (.var ?_ ?_)) .int) .nil))) ?_)
  (.cons (.forL ?_ ?_ (.var ?_ ?_) (.cons (.aug ?_ ?_ (.inr (.inr (.inr (.inr rfl)))) (.bin (.var ?_ ?_) (.var ?_ ?_)))
  (.cons (.app ?_ ?_ (.bin (.var ?_ ?_) (.var ?_ ?_)) ?_)
  (.cons (.aug ?_ ?_ (.inr (.inr (.inr (.inl rfl)))) (.var ?_ ?_))
  .nil))))
  (.cons (.ite (.cmp (.var ?_ ?_) .int) (.cons (.app ?_ ?_ (.var ?_ ?_) ?_)
  .nil) .nil)
  (.cons (.ret (.var ?_ ?_))
  .nil))))))
  all_goals (first | kernel_rfl | (intro env h; obtain ⟨⟩ := env; dsimp only at h; subst h; kernel_rfl))

set_option maxHeartbeats 4000000 in
theorem ok_shift_right (q : Nat) (P : Params) (Z : Led) : Nonempty (FnD (hK P) (fa q) Z 8 d_shift_right) := by
  refine' fnd_of [Str.ofString "a", Str.ofString "n", Str.ofString "w"] [Str.ofString "at", Str.ofString "spots", Str.ofString "few", Str.ofString "found", Str.ofString "mask", Str.ofString "above"] (f := 114) ?ho ?h1 ?h2 ?h3 ?h4 ?h5 ?h6 ?h7 ?h8 ?h9 ?h10 ?h11 ?h12 ?_
  case h3 => exact bt3 fun _ _ _ => by kernel_rfl
  (case ho => k_is)
  (case h1 => kernel_rfl)
  (case h2 => kernel_rfl)
  (case h4 => kernel_rfl)
  (case h5 => kernel_rfl)
  (case h6 => kernel_rfl)
  (case h7 => kernel_rfl)
  (case h8 => kernel_rfl)
  (case h9 => kernel_rfl)
  (case h10 => kernel_rfl)
  (case h11 => kernel_rfl)
  (case h12 => kernel_rfl)
  unfold d_shift_right b_shift_right l_shift_right_1 l_shift_right_1b
  refine (.cons (.asgS (ns := [Str.ofString "spots", Str.ofString "few"]) (.cons ?_ ?_ (.cons ?_ ?_ .nil)) ?_ (by decide) (.cons (.bin (.var ?_ ?_) (.var ?_ ?_)) (.cons (.bin (.var ?_ ?_) (.var ?_ ?_)) .nil)) ?_)
  (.cons (.asgS (ns := [Str.ofString "found", Str.ofString "mask"]) (.cons ?_ ?_ (.cons ?_ ?_ .nil)) ?_ (by decide) (.cons (.list (by decide) .nil) (.cons (.bin (.bin .int (.var ?_ ?_)) .int) .nil)) ?_)
  (.cons (.forR2 ⟨?_, ?_⟩ ?_ ?_ (.var ?_ ?_) (.lenv ⟨?_, ?_⟩ ?_ ?_) (.cons (.asg ?_ ?_ (.ite (.cmp (.bin (.var ?_ ?_) .int) (.lenv ⟨?_, ?_⟩ ?_ ?_)) (.idxv ?_ ?_ (.bin (.var ?_ ?_) .int)) .int))
  (.cons (.app ?_ ?_ (.bin (.bin (.bin (.idxv ?_ ?_ (.var ?_ ?_)) (.var ?_ ?_)) (.bin (.var ?_ ?_) (.bin (.var ?_ ?_) (.var ?_ ?_)))) (.var ?_ ?_)) ?_)
  .nil)))
  (.cons (.ret (.call (.gl ?_ ?_ ?_) (.cons (.var ?_ ?_) .nil)))
  .nil))))
  all_goals (first | kernel_rfl | (intro env h; obtain ⟨⟩ := env; dsimp only at h; subst h; kernel_rfl))

set_option maxHeartbeats 4000000 in
theorem ok_bits (q : Nat) (P : Params) (Z : Led) : Nonempty (FnD (hK P) (fa q) Z 9 d_bits) := by
  refine' fnd_of [Str.ofString "a", Str.ofString "w"] [] (f := 121) ?ho ?h1 ?h2 ?h3 ?h4 ?h5 ?h6 ?h7 ?h8 ?h9 ?h10 ?h11 ?h12 ?_
  case h3 => exact bt2 fun _ _ => by kernel_rfl
  (case ho => k_is)
  (case h1 => kernel_rfl)
  (case h2 => kernel_rfl)
  (case h4 => kernel_rfl)
  (case h5 => kernel_rfl)
  (case h6 => kernel_rfl)
  (case h7 => kernel_rfl)
  (case h8 => kernel_rfl)
  (case h9 => kernel_rfl)
  (case h10 => kernel_rfl)
  (case h11 => kernel_rfl)
  (case h12 => kernel_rfl)
  unfold d_bits b_bits
  refine (.cons (.ret (.ite (.cmp (.lenv ⟨?_, ?_⟩ ?_ ?_) .int) (.bin (.bin (.bin (.lenv ⟨?_, ?_⟩ ?_ ?_) .int) (.var ?_ ?_)) (.bitlens (.idxv ?_ ?_ (.neg .int)) ?_)) .int))
  .nil)
  all_goals (first | kernel_rfl | (intro env h; obtain ⟨⟩ := env; dsimp only at h; subst h; kernel_rfl))

set_option maxHeartbeats 4000000 in
theorem ok_bit (q : Nat) (P : Params) (Z : Led) : Nonempty (FnD (hK P) (fa q) Z 10 d_bit) := by
  refine' fnd_of [Str.ofString "a", Str.ofString "n", Str.ofString "w"] [] (f := 128) ?ho ?h1 ?h2 ?h3 ?h4 ?h5 ?h6 ?h7 ?h8 ?h9 ?h10 ?h11 ?h12 ?_
  case h3 => exact bt3 fun _ _ _ => by kernel_rfl
  (case ho => k_is)
  (case h1 => kernel_rfl)
  (case h2 => kernel_rfl)
  (case h4 => kernel_rfl)
  (case h5 => kernel_rfl)
  (case h6 => kernel_rfl)
  (case h7 => kernel_rfl)
  (case h8 => kernel_rfl)
  (case h9 => kernel_rfl)
  (case h10 => kernel_rfl)
  (case h11 => kernel_rfl)
  (case h12 => kernel_rfl)
  unfold d_bit b_bit
  refine (.cons (.ret (.ite (.cmp (.bin (.var ?_ ?_) (.var ?_ ?_)) (.lenv ⟨?_, ?_⟩ ?_ ?_)) (.bin (.bin (.idxv ?_ ?_ (.bin (.var ?_ ?_) (.var ?_ ?_))) (.bin (.var ?_ ?_) (.var ?_ ?_))) .int) .int))
  .nil)
  all_goals (first | kernel_rfl | (intro env h; obtain ⟨⟩ := env; dsimp only at h; subst h; kernel_rfl))

set_option maxHeartbeats 4000000 in
theorem ok_check_base (q : Nat) (P : Params) (Z : Led) : Nonempty (FnD (hK P) (fa q) Z 12 d_check_base) := by
  refine' fnd_of [Str.ofString "base"] [] (f := 142) ?ho ?h1 ?h2 ?h3 ?h4 ?h5 ?h6 ?h7 ?h8 ?h9 ?h10 ?h11 ?h12 ?_
  case h3 => exact bt1 fun _ => by kernel_rfl
  (case ho => k_is)
  (case h1 => kernel_rfl)
  (case h2 => kernel_rfl)
  (case h4 => kernel_rfl)
  (case h5 => kernel_rfl)
  (case h6 => kernel_rfl)
  (case h7 => kernel_rfl)
  (case h8 => kernel_rfl)
  (case h9 => kernel_rfl)
  (case h10 => kernel_rfl)
  (case h11 => kernel_rfl)
  (case h12 => kernel_rfl)
  unfold d_check_base b_check_base
  refine (.cons (.ite (.cmp (.var ?_ ?_) .int) (.cons .raise
  .nil) .nil)
  .nil)
  all_goals (first | kernel_rfl | (intro env h; obtain ⟨⟩ := env; dsimp only at h; subst h; kernel_rfl))

set_option maxHeartbeats 4000000 in
theorem ok_digit_off (q : Nat) (P : Params) (Z : Led) : Nonempty (FnD (hK P) (fa q) Z 13 d_digit_off) := by
  refine' fnd_of [Str.ofString "a", Str.ofString "base", Str.ofString "w", Str.ofString "divrem"] [Str.ofString "quotient", Str.ofString "rest"] (f := 149) ?ho ?h1 ?h2 ?h3 ?h4 ?h5 ?h6 ?h7 ?h8 ?h9 ?h10 ?h11 ?h12 ?_
  case h3 => exact bt4 fun _ _ _ _ => by kernel_rfl
  (case ho => k_is)
  (case h1 => kernel_rfl)
  (case h2 => kernel_rfl)
  (case h4 => kernel_rfl)
  (case h5 => kernel_rfl)
  (case h6 => kernel_rfl)
  (case h7 => kernel_rfl)
  (case h8 => kernel_rfl)
  (case h9 => kernel_rfl)
  (case h10 => kernel_rfl)
  (case h11 => kernel_rfl)
  (case h12 => kernel_rfl)
  unfold d_digit_off b_digit_off
  refine (.cons (.ite (.cmp (.var ?_ ?_) (.bin .int (.var ?_ ?_))) (.cons (.ret (.call (.gl ?_ ?_ ?_) (.cons (.var ?_ ?_) (.cons (.var ?_ ?_) (.cons (.var ?_ ?_) .nil)))))
  .nil) .nil)
  (.cons (.asgU (.cons ?_ ?_ (.cons ?_ ?_ .nil)) (.call (.var ?_ ?_) (.cons (.var ?_ ?_) (.cons (.call (.gl ?_ ?_ ?_) (.cons (.var ?_ ?_) (.cons (.var ?_ ?_) .nil))) (.cons (.var ?_ ?_) .nil)))) ?_)
  (.cons (.ret (.tup (by decide) (.cons (.var ?_ ?_) (.cons (.call (.gl ?_ ?_ ?_) (.cons (.var ?_ ?_) (.cons (.var ?_ ?_) .nil))) .nil))))
  .nil)))
  all_goals (first | kernel_rfl | (intro env h; obtain ⟨⟩ := env; dsimp only at h; subst h; kernel_rfl))

set_option maxHeartbeats 4000000 in
theorem ok_digits_plain (q : Nat) (P : Params) (Z : Led) : Nonempty (FnD (hK P) (fa q) Z 14 d_digits_plain) := by
  refine' fnd_of [Str.ofString "a", Str.ofString "base", Str.ofString "w", Str.ofString "divrem"] [Str.ofString "found", Str.ofString "digit"] (f := 156) ?ho ?h1 ?h2 ?h3 ?h4 ?h5 ?h6 ?h7 ?h8 ?h9 ?h10 ?h11 ?h12 ?_
  case h3 => exact bt4 fun _ _ _ _ => by kernel_rfl
  (case ho => k_is)
  (case h1 => kernel_rfl)
  (case h2 => kernel_rfl)
  (case h4 => kernel_rfl)
  (case h5 => kernel_rfl)
  (case h6 => kernel_rfl)
  (case h7 => kernel_rfl)
  (case h8 => kernel_rfl)
  (case h9 => kernel_rfl)
  (case h10 => kernel_rfl)
  (case h11 => kernel_rfl)
  (case h12 => kernel_rfl)
  unfold d_digits_plain b_digits_plain l_digits_plain_1 l_digits_plain_1t l_digits_plain_1b
  refine (.cons (.asg ?_ ?_ (.list (by decide) .nil))
  (.cons (.wh (.cmp (.lenv ⟨?_, ?_⟩ ?_ ?_) .int) (.cons (.asgU (.cons ?_ ?_ (.cons ?_ ?_ .nil)) (.call (.gl ?_ ?_ ?_) (.cons (.var ?_ ?_) (.cons (.var ?_ ?_) (.cons (.var ?_ ?_) (.cons (.var ?_ ?_) .nil))))) ?_)
  (.cons (.app ?_ ?_ (.var ?_ ?_) ?_)
  .nil)))
  (.cons (.rev ?_ ?_ ?_)
  (.cons (.ret (.var ?_ ?_))
  .nil))))
  all_goals (first | kernel_rfl | (intro env h; obtain ⟨⟩ := env; dsimp only at h; subst h; kernel_rfl))

set_option maxHeartbeats 4000000 in
theorem ok_base_powers (q : Nat) (P : Params) (Z : Led) : Nonempty (FnD (hK P) (fa q) Z 15 d_base_powers) := by
  refine' fnd_of [Str.ofString "a", Str.ofString "base", Str.ofString "w", Str.ofString "mul"] [Str.ofString "found", Str.ofString "power"] (f := 163) ?ho ?h1 ?h2 ?h3 ?h4 ?h5 ?h6 ?h7 ?h8 ?h9 ?h10 ?h11 ?h12 ?_
  case h3 => exact bt4 fun _ _ _ _ => by kernel_rfl
  (case ho => k_is)
  (case h1 => kernel_rfl)
  (case h2 => kernel_rfl)
  (case h4 => kernel_rfl)
  (case h5 => kernel_rfl)
  (case h6 => kernel_rfl)
  (case h7 => kernel_rfl)
  (case h8 => kernel_rfl)
  (case h9 => kernel_rfl)
  (case h10 => kernel_rfl)
  (case h11 => kernel_rfl)
  (case h12 => kernel_rfl)
  unfold d_base_powers b_base_powers l_base_powers_1 l_base_powers_1t l_base_powers_1b
  refine (.cons (.asgS (ns := [Str.ofString "found", Str.ofString "power"]) (.cons ?_ ?_ (.cons ?_ ?_ .nil)) ?_ (by decide) (.cons (.list (by decide) .nil) (.cons (.call (.gl ?_ ?_ ?_) (.cons (.var ?_ ?_) (.cons (.var ?_ ?_) .nil))) .nil)) ?_)
  (.cons (.wh (.cmp (.call (.gl ?_ ?_ ?_) (.cons (.var ?_ ?_) (.cons (.var ?_ ?_) .nil))) .int) (.cons (.app ?_ ?_ (.var ?_ ?_) ?_)
  (.cons (.asg ?_ ?_ (.call (.var ?_ ?_) (.cons (.var ?_ ?_) (.cons (.var ?_ ?_) (.cons (.var ?_ ?_) .nil)))))
  .nil)))
  (.cons (.ret (.var ?_ ?_))
  .nil)))
  all_goals (first | kernel_rfl | (intro env h; obtain ⟨⟩ := env; dsimp only at h; subst h; kernel_rfl))

set_option maxHeartbeats 4000000 in
theorem ok_with_noughts (q : Nat) (P : Params) (Z : Led) : Nonempty (FnD (hK P) (fa q) Z 16 d_with_noughts) := by
  refine' fnd_of [Str.ofString "digits", Str.ofString "many"] [] (f := 170) ?ho ?h1 ?h2 ?h3 ?h4 ?h5 ?h6 ?h7 ?h8 ?h9 ?h10 ?h11 ?h12 ?_
  case h3 => exact bt2 fun _ _ => by kernel_rfl
  (case ho => k_is)
  (case h1 => kernel_rfl)
  (case h2 => kernel_rfl)
  (case h4 => kernel_rfl)
  (case h5 => kernel_rfl)
  (case h6 => kernel_rfl)
  (case h7 => kernel_rfl)
  (case h8 => kernel_rfl)
  (case h9 => kernel_rfl)
  (case h10 => kernel_rfl)
  (case h11 => kernel_rfl)
  (case h12 => kernel_rfl)
  unfold d_with_noughts b_with_noughts
  refine (.cons (.ret (.bin (.bin (.list (by decide) (.cons .int .nil)) (.bin (.var ?_ ?_) (.lenv ⟨?_, ?_⟩ ?_ ?_))) (.var ?_ ?_)))
  .nil)
  all_goals (first | kernel_rfl | (intro env h; obtain ⟨⟩ := env; dsimp only at h; subst h; kernel_rfl))

set_option maxHeartbeats 4000000 in
theorem ok_digits_by_powers (q : Nat) (P : Params) (Z : Led) : Nonempty (FnD (hK P) (fa q) Z 17 d_digits_by_powers) := by
  refine' fnd_of [Str.ofString "a", Str.ofString "powers", Str.ofString "base", Str.ofString "w", Str.ofString "least", Str.ofString "divrem"] [Str.ofString "ahead", Str.ofString "power", Str.ofString "lesser", Str.ofString "many", Str.ofString "high", Str.ofString "low"] (f := 177) ?ho ?h1 ?h2 ?h3 ?h4 ?h5 ?h6 ?h7 ?h8 ?h9 ?h10 ?h11 ?h12 ?_
  case h3 => exact bt6 fun _ _ _ _ _ _ => by kernel_rfl
  (case ho => k_is)
  (case h1 => kernel_rfl)
  (case h2 => kernel_rfl)
  (case h4 => kernel_rfl)
  (case h5 => kernel_rfl)
  (case h6 => kernel_rfl)
  (case h7 => kernel_rfl)
  (case h8 => kernel_rfl)
  (case h9 => kernel_rfl)
  (case h10 => kernel_rfl)
  (case h11 => kernel_rfl)
  (case h12 => kernel_rfl)
  unfold d_digits_by_powers b_digits_by_powers
  refine (.cons (.ite (.or (.cmp (.lenv ⟨?_, ?_⟩ ?_ ?_) (.var ?_ ?_)) (.cmp (.lenv ⟨?_, ?_⟩ ?_ ?_) .int)) (.cons (.ret (.call (.gl ?_ ?_ ?_) (.cons (.var ?_ ?_) (.cons (.var ?_ ?_) (.cons (.var ?_ ?_) (.cons (.var ?_ ?_) .nil))))))
  .nil) .nil)
  (.cons (.asgS (ns := [Str.ofString "power", Str.ofString "lesser", Str.ofString "many"]) (.cons ?_ ?_ (.cons ?_ ?_ (.cons ?_ ?_ .nil))) ?_ (by decide) (.cons (.idxv ?_ ?_ (.neg .int)) (.cons (.slc ?_ ?_ .none (.some (.neg .int))) (.cons (.bin .int (.bin (.lenv ⟨?_, ?_⟩ ?_ ?_) .int)) .nil))) ?_)
  (.cons (.ite (.cmp (.call (.gl ?_ ?_ ?_) (.cons (.var ?_ ?_) (.cons (.var ?_ ?_) .nil))) .int) (.cons (.ret (.call (.gl ?_ ?_ ?_) (.cons (.var ?_ ?_) (.cons (.var ?_ ?_) (.cons (.var ?_ ?_) (.cons (.var ?_ ?_) (.cons (.var ?_ ?_) (.cons (.var ?_ ?_) .nil))))))))
  .nil) .nil)
  (.cons (.asgU (.cons ?_ ?_ (.cons ?_ ?_ .nil)) (.call (.var ?_ ?_) (.cons (.var ?_ ?_) (.cons (.var ?_ ?_) (.cons (.var ?_ ?_) .nil)))) ?_)
  (.cons (.asg ?_ ?_ (.call (.gl ?_ ?_ ?_) (.cons (.var ?_ ?_) (.cons (.var ?_ ?_) (.cons (.var ?_ ?_) (.cons (.var ?_ ?_) (.cons (.var ?_ ?_) (.cons (.var ?_ ?_) .nil))))))))
  (.cons (.ret (.bin (.var ?_ ?_) (.call (.gl ?_ ?_ ?_) (.cons (.call (.gl ?_ ?_ ?_) (.cons (.var ?_ ?_) (.cons (.var ?_ ?_) (.cons (.var ?_ ?_) (.cons (.var ?_ ?_) (.cons (.var ?_ ?_) (.cons (.var ?_ ?_) .nil))))))) (.cons (.var ?_ ?_) .nil)))))
  .nil))))))
  all_goals (first | kernel_rfl | (intro env h; obtain ⟨⟩ := env; dsimp only at h; subst h; kernel_rfl))

set_option maxHeartbeats 4000000 in
theorem ok_to_digits (q : Nat) (P : Params) (Z : Led) : Nonempty (FnD (hK P) (fa q) Z 18 d_to_digits) := by
  refine' fnd_of [Str.ofString "a", Str.ofString "base", Str.ofString "w", Str.ofString "least", Str.ofString "divrem", Str.ofString "mul"] [Str.ofString "powers"] (f := 184) ?ho ?h1 ?h2 ?h3 ?h4 ?h5 ?h6 ?h7 ?h8 ?h9 ?h10 ?h11 ?h12 ?_
  case h3 => exact bt6 fun _ _ _ _ _ _ => by kernel_rfl
  (case ho => k_is)
  (case h1 => kernel_rfl)
  (case h2 => kernel_rfl)
  (case h4 => kernel_rfl)
  (case h5 => kernel_rfl)
  (case h6 => kernel_rfl)
  (case h7 => kernel_rfl)
  (case h8 => kernel_rfl)
  (case h9 => kernel_rfl)
  (case h10 => kernel_rfl)
  (case h11 => kernel_rfl)
  (case h12 => kernel_rfl)
  unfold d_to_digits b_to_digits
  refine (.cons (.ex (.call (.gl ?_ ?_ ?_) (.cons (.var ?_ ?_) .nil)))
  (.cons (.asg ?_ ?_ (.ite (.cmp (.lenv ⟨?_, ?_⟩ ?_ ?_) (.var ?_ ?_)) (.call (.gl ?_ ?_ ?_) (.cons (.var ?_ ?_) (.cons (.var ?_ ?_) (.cons (.var ?_ ?_) (.cons (.var ?_ ?_) .nil))))) (.list (by decide) .nil)))
  (.cons (.ret (.call (.gl ?_ ?_ ?_) (.cons (.var ?_ ?_) (.cons (.var ?_ ?_) (.cons (.var ?_ ?_) (.cons (.var ?_ ?_) (.cons (.var ?_ ?_) (.cons (.var ?_ ?_) .nil))))))))
  .nil)))
  all_goals (first | kernel_rfl | (intro env h; obtain ⟨⟩ := env; dsimp only at h; subst h; kernel_rfl))

set_option maxHeartbeats 4000000 in
theorem ok_times_base (q : Nat) (P : Params) (Z : Led) : Nonempty (FnD (hK P) (fa q) Z 19 d_times_base) := by
  refine' fnd_of [Str.ofString "a", Str.ofString "base", Str.ofString "w", Str.ofString "mul"] [] (f := 191) ?ho ?h1 ?h2 ?h3 ?h4 ?h5 ?h6 ?h7 ?h8 ?h9 ?h10 ?h11 ?h12 ?_
  case h3 => exact bt4 fun _ _ _ _ => by kernel_rfl
  (case ho => k_is)
  (case h1 => kernel_rfl)
  (case h2 => kernel_rfl)
  (case h4 => kernel_rfl)
  (case h5 => kernel_rfl)
  (case h6 => kernel_rfl)
  (case h7 => kernel_rfl)
  (case h8 => kernel_rfl)
  (case h9 => kernel_rfl)
  (case h10 => kernel_rfl)
  (case h11 => kernel_rfl)
  (case h12 => kernel_rfl)
  unfold d_times_base b_times_base
  refine (.cons (.ret (.ite (.cmp (.var ?_ ?_) (.bin .int (.var ?_ ?_))) (.call (.gl ?_ ?_ ?_) (.cons (.var ?_ ?_) (.cons (.var ?_ ?_) (.cons (.var ?_ ?_) .nil)))) (.call (.var ?_ ?_) (.cons (.var ?_ ?_) (.cons (.call (.gl ?_ ?_ ?_) (.cons (.var ?_ ?_) (.cons (.var ?_ ?_) .nil))) (.cons (.var ?_ ?_) .nil))))))
  .nil)
  all_goals (first | kernel_rfl | (intro env h; obtain ⟨⟩ := env; dsimp only at h; subst h; kernel_rfl))

set_option maxHeartbeats 4000000 in
theorem ok_number_plain (q : Nat) (P : Params) (Z : Led) : Nonempty (FnD (hK P) (fa q) Z 20 d_number_plain) := by
  refine' fnd_of [Str.ofString "digits", Str.ofString "base", Str.ofString "w", Str.ofString "mul"] [Str.ofString "found", Str.ofString "digit"] (f := 198) ?ho ?h1 ?h2 ?h3 ?h4 ?h5 ?h6 ?h7 ?h8 ?h9 ?h10 ?h11 ?h12 ?_
  case h3 => exact bt4 fun _ _ _ _ => by kernel_rfl
  (case ho => k_is)
  (case h1 => kernel_rfl)
  (case h2 => kernel_rfl)
  (case h4 => kernel_rfl)
  (case h5 => kernel_rfl)
  (case h6 => kernel_rfl)
  (case h7 => kernel_rfl)
  (case h8 => kernel_rfl)
  (case h9 => kernel_rfl)
  (case h10 => kernel_rfl)
  (case h11 => kernel_rfl)
  (case h12 => kernel_rfl)
  unfold d_number_plain b_number_plain l_number_plain_1 l_number_plain_1b
  refine (.cons (.asg ?_ ?_ (.list (by decide) .nil))
  (.cons (.forL ?_ ?_ (.var ?_ ?_) (.cons (.asg ?_ ?_ (.call (.gl ?_ ?_ ?_) (.cons (.call (.gl ?_ ?_ ?_) (.cons (.var ?_ ?_) (.cons (.var ?_ ?_) (.cons (.var ?_ ?_) (.cons (.var ?_ ?_) .nil))))) (.cons (.call (.gl ?_ ?_ ?_) (.cons (.var ?_ ?_) (.cons (.var ?_ ?_) .nil))) (.cons (.var ?_ ?_) .nil)))))
  .nil))
  (.cons (.ret (.var ?_ ?_))
  .nil)))
  all_goals (first | kernel_rfl | (intro env h; obtain ⟨⟩ := env; dsimp only at h; subst h; kernel_rfl))

set_option maxHeartbeats 4000000 in
theorem ok_number_by_powers (q : Nat) (P : Params) (Z : Led) : Nonempty (FnD (hK P) (fa q) Z 21 d_number_by_powers) := by
  refine' fnd_of [Str.ofString "digits", Str.ofString "powers", Str.ofString "base", Str.ofString "w", Str.ofString "least", Str.ofString "mul"] [Str.ofString "at", Str.ofString "many", Str.ofString "high", Str.ofString "low"] (f := 205) ?ho ?h1 ?h2 ?h3 ?h4 ?h5 ?h6 ?h7 ?h8 ?h9 ?h10 ?h11 ?h12 ?_
  case h3 => exact bt6 fun _ _ _ _ _ _ => by kernel_rfl
  (case ho => k_is)
  (case h1 => kernel_rfl)
  (case h2 => kernel_rfl)
  (case h4 => kernel_rfl)
  (case h5 => kernel_rfl)
  (case h6 => kernel_rfl)
  (case h7 => kernel_rfl)
  (case h8 => kernel_rfl)
  (case h9 => kernel_rfl)
  (case h10 => kernel_rfl)
  (case h11 => kernel_rfl)
  (case h12 => kernel_rfl)
  unfold d_number_by_powers b_number_by_powers l_number_by_powers_1 l_number_by_powers_1t l_number_by_powers_1b
  refine (.cons (.asg ?_ ?_ (.bin (.lenv ⟨?_, ?_⟩ ?_ ?_) .int))
  (.cons (.wh (.and (.cmp (.var ?_ ?_) .int) (.cmp (.bin .int (.var ?_ ?_)) (.lenv ⟨?_, ?_⟩ ?_ ?_))) (.cons (.asg ?_ ?_ (.bin (.var ?_ ?_) .int))
  .nil))
  (.cons (.ite (.or (.cmp (.lenv ⟨?_, ?_⟩ ?_ ?_) (.var ?_ ?_)) (.cmp (.var ?_ ?_) .int)) (.cons (.ret (.call (.gl ?_ ?_ ?_) (.cons (.var ?_ ?_) (.cons (.var ?_ ?_) (.cons (.var ?_ ?_) (.cons (.var ?_ ?_) .nil))))))
  .nil) .nil)
  (.cons (.asg ?_ ?_ (.bin (.lenv ⟨?_, ?_⟩ ?_ ?_) (.bin .int (.var ?_ ?_))))
  (.cons (.asg ?_ ?_ (.call (.gl ?_ ?_ ?_) (.cons (.slc ?_ ?_ .none (.some (.var ?_ ?_))) (.cons (.var ?_ ?_) (.cons (.var ?_ ?_) (.cons (.var ?_ ?_) (.cons (.var ?_ ?_) (.cons (.var ?_ ?_) .nil))))))))
  (.cons (.asg ?_ ?_ (.call (.gl ?_ ?_ ?_) (.cons (.slc ?_ ?_ (.some (.var ?_ ?_)) .none) (.cons (.var ?_ ?_) (.cons (.var ?_ ?_) (.cons (.var ?_ ?_) (.cons (.var ?_ ?_) (.cons (.var ?_ ?_) .nil))))))))
  (.cons (.ret (.call (.gl ?_ ?_ ?_) (.cons (.call (.var ?_ ?_) (.cons (.var ?_ ?_) (.cons (.idxv ?_ ?_ (.var ?_ ?_)) (.cons (.var ?_ ?_) .nil)))) (.cons (.var ?_ ?_) (.cons (.var ?_ ?_) .nil)))))
  .nil)))))))
  all_goals (first | kernel_rfl | (intro env h; obtain ⟨⟩ := env; dsimp only at h; subst h; kernel_rfl))

set_option maxHeartbeats 4000000 in
theorem ok_from_digits (q : Nat) (P : Params) (Z : Led) : Nonempty (FnD (hK P) (fa q) Z 22 d_from_digits) := by
  refine' fnd_of [Str.ofString "digits", Str.ofString "base", Str.ofString "w", Str.ofString "least", Str.ofString "mul"] [Str.ofString "digit", Str.ofString "powers"] (f := 212) ?ho ?h1 ?h2 ?h3 ?h4 ?h5 ?h6 ?h7 ?h8 ?h9 ?h10 ?h11 ?h12 ?_
  case h3 => exact bt5 fun _ _ _ _ _ => by kernel_rfl
  (case ho => k_is)
  (case h1 => kernel_rfl)
  (case h2 => kernel_rfl)
  (case h4 => kernel_rfl)
  (case h5 => kernel_rfl)
  (case h6 => kernel_rfl)
  (case h7 => kernel_rfl)
  (case h8 => kernel_rfl)
  (case h9 => kernel_rfl)
  (case h10 => kernel_rfl)
  (case h11 => kernel_rfl)
  (case h12 => kernel_rfl)
  unfold d_from_digits b_from_digits l_from_digits_2 l_from_digits_2b l_from_digits_1 l_from_digits_1t l_from_digits_1b
  refine (.cons (.ex (.call (.gl ?_ ?_ ?_) (.cons (.var ?_ ?_) .nil)))
  (.cons (.forL ?_ ?_ (.var ?_ ?_) (.cons (.ite (.not (.cmp2 .int (.var ?_ ?_) (.var ?_ ?_))) (.cons .raise
  .nil) .nil)
  .nil))
  (.cons (.asg ?_ ?_ (.list (by decide) .nil))
  (.cons (.ite (.cmp (.lenv ⟨?_, ?_⟩ ?_ ?_) (.max ⟨?_, ?_⟩ (.var ?_ ?_) .int)) (.cons (.app ?_ ?_ (.call (.gl ?_ ?_ ?_) (.cons (.var ?_ ?_) (.cons (.var ?_ ?_) .nil))) ?_)
  (.cons (.wh (.cmp (.bin .int (.bin (.lenv ⟨?_, ?_⟩ ?_ ?_) .int)) (.lenv ⟨?_, ?_⟩ ?_ ?_)) (.cons (.app ?_ ?_ (.call (.var ?_ ?_) (.cons (.idxv ?_ ?_ (.neg .int)) (.cons (.idxv ?_ ?_ (.neg .int)) (.cons (.var ?_ ?_) .nil)))) ?_)
  .nil))
  .nil)) .nil)
  (.cons (.ret (.call (.gl ?_ ?_ ?_) (.cons (.var ?_ ?_) (.cons (.var ?_ ?_) (.cons (.var ?_ ?_) (.cons (.var ?_ ?_) (.cons (.var ?_ ?_) (.cons (.var ?_ ?_) .nil))))))))
  .nil)))))
  all_goals (first | kernel_rfl | (intro env h; obtain ⟨⟩ := env; dsimp only at h; subst h; kernel_rfl))

set_option maxHeartbeats 4000000 in
theorem ok_power (q : Nat) (P : Params) (Z : Led) : Nonempty (FnD (hK P) (fa q) Z 23 d_power) := by
  refine' fnd_of [Str.ofString "a", Str.ofString "n", Str.ofString "w", Str.ofString "mul"] [Str.ofString "found", Str.ofString "spot"] (f := 219) ?ho ?h1 ?h2 ?h3 ?h4 ?h5 ?h6 ?h7 ?h8 ?h9 ?h10 ?h11 ?h12 ?_
  case h3 => exact bt4 fun _ _ _ _ => by kernel_rfl
  (case ho => k_is)
  (case h1 => kernel_rfl)
  (case h2 => kernel_rfl)
  (case h4 => kernel_rfl)
  (case h5 => kernel_rfl)
  (case h6 => kernel_rfl)
  (case h7 => kernel_rfl)
  (case h8 => kernel_rfl)
  (case h9 => kernel_rfl)
  (case h10 => kernel_rfl)
  (case h11 => kernel_rfl)
  (case h12 => kernel_rfl)
  unfold d_power b_power l_power_1 l_power_1b
  refine (.cons (.ite (.cmp (.var ?_ ?_) .int) (.cons .raise
  .nil) .nil)
  (.cons (.asg ?_ ?_ (.list (by decide) (.cons .int .nil)))
  (.cons (.forR3 ⟨?_, ?_⟩ ?_ ?_ (.bin (.bitlenv (.var ?_ ?_) ?_) .int) (.neg .int) (.cons (.asg ?_ ?_ (.call (.var ?_ ?_) (.cons (.var ?_ ?_) (.cons (.var ?_ ?_) (.cons (.var ?_ ?_) .nil)))))
  (.cons (.ite (.cmp (.bin (.bin (.var ?_ ?_) (.var ?_ ?_)) .int) .int) (.cons (.asg ?_ ?_ (.call (.var ?_ ?_) (.cons (.var ?_ ?_) (.cons (.var ?_ ?_) (.cons (.var ?_ ?_) .nil)))))
  .nil) .nil)
  .nil)))
  (.cons (.ret (.var ?_ ?_))
  .nil))))
  all_goals (first | kernel_rfl | (intro env h; obtain ⟨⟩ := env; dsimp only at h; subst h; kernel_rfl))

set_option maxHeartbeats 4000000 in
theorem ok_odd_powers (q : Nat) (P : Params) (Z : Led) : Nonempty (FnD (hK P) (fa q) Z 24 d_odd_powers) := by
  refine' fnd_of [Str.ofString "base", Str.ofString "size", Str.ofString "times"] [Str.ofString "turn", Str.ofString "found", Str.ofString "square"] (f := 226) ?ho ?h1 ?h2 ?h3 ?h4 ?h5 ?h6 ?h7 ?h8 ?h9 ?h10 ?h11 ?h12 ?_
  case h3 => exact bt3 fun _ _ _ => by kernel_rfl
  (case ho => k_is)
  (case h1 => kernel_rfl)
  (case h2 => kernel_rfl)
  (case h4 => kernel_rfl)
  (case h5 => kernel_rfl)
  (case h6 => kernel_rfl)
  (case h7 => kernel_rfl)
  (case h8 => kernel_rfl)
  (case h9 => kernel_rfl)
  (case h10 => kernel_rfl)
  (case h11 => kernel_rfl)
  (case h12 => kernel_rfl)
  unfold d_odd_powers b_odd_powers l_odd_powers_1 l_odd_powers_1b
  refine (.cons (.asgS (ns := [Str.ofString "found", Str.ofString "square"]) (.cons ?_ ?_ (.cons ?_ ?_ .nil)) ?_ (by decide) (.cons (.list (by decide) (.cons (.var ?_ ?_) .nil)) (.cons (.call (.var ?_ ?_) (.cons (.var ?_ ?_) (.cons (.var ?_ ?_) .nil))) .nil)) ?_)
  (.cons (.forR1 ⟨?_, ?_⟩ ?_ ?_ (.bin (.bin .int (.bin (.var ?_ ?_) .int)) .int) (.cons (.app ?_ ?_ (.call (.var ?_ ?_) (.cons (.idxv ?_ ?_ (.neg .int)) (.cons (.var ?_ ?_) .nil))) ?_)
  .nil))
  (.cons (.ret (.var ?_ ?_))
  .nil)))
  all_goals (first | kernel_rfl | (intro env h; obtain ⟨⟩ := env; dsimp only at h; subst h; kernel_rfl))

set_option maxHeartbeats 4000000 in
theorem ok_window_at (q : Nat) (P : Params) (Z : Led) : Nonempty (FnD (hK P) (fa q) Z 25 d_window_at) := by
  refine' fnd_of [Str.ofString "e", Str.ofString "top", Str.ofString "size", Str.ofString "w"] [Str.ofString "last", Str.ofString "value", Str.ofString "spot"] (f := 233) ?ho ?h1 ?h2 ?h3 ?h4 ?h5 ?h6 ?h7 ?h8 ?h9 ?h10 ?h11 ?h12 ?_
  case h3 => exact bt4 fun _ _ _ _ => by kernel_rfl
  (case ho => k_is)
  (case h1 => kernel_rfl)
  (case h2 => kernel_rfl)
  (case h4 => kernel_rfl)
  (case h5 => kernel_rfl)
  (case h6 => kernel_rfl)
  (case h7 => kernel_rfl)
  (case h8 => kernel_rfl)
  (case h9 => kernel_rfl)
  (case h10 => kernel_rfl)
  (case h11 => kernel_rfl)
  (case h12 => kernel_rfl)
  unfold d_window_at b_window_at l_window_at_2 l_window_at_2t l_window_at_2b l_window_at_1 l_window_at_1b
  refine (.cons (.asg ?_ ?_ (.max ⟨?_, ?_⟩ (.bin (.bin (.var ?_ ?_) (.var ?_ ?_)) .int) .int))
  (.cons (.wh (.cmp (.call (.gl ?_ ?_ ?_) (.cons (.var ?_ ?_) (.cons (.var ?_ ?_) (.cons (.var ?_ ?_) .nil)))) .int) (.cons (.aug ?_ ?_ (.inl rfl) .int)
  .nil))
  (.cons (.asg ?_ ?_ .int)
  (.cons (.forR3 ⟨?_, ?_⟩ ?_ ?_ (.var ?_ ?_) (.bin (.var ?_ ?_) .int) (.cons (.asg ?_ ?_ (.bin (.bin .int (.var ?_ ?_)) (.call (.gl ?_ ?_ ?_) (.cons (.var ?_ ?_) (.cons (.var ?_ ?_) (.cons (.var ?_ ?_) .nil))))))
  .nil))
  (.cons (.ret (.tup (by decide) (.cons (.var ?_ ?_) (.cons (.bin (.bin (.var ?_ ?_) (.var ?_ ?_)) .int) .nil))))
  .nil)))))
  all_goals (first | kernel_rfl | (intro env h; obtain ⟨⟩ := env; dsimp only at h; subst h; kernel_rfl))

set_option maxHeartbeats 4000000 in
theorem ok_by_windows (q : Nat) (P : Params) (Z : Led) : Nonempty (FnD (hK P) (fa q) Z 26 d_by_windows) := by
  refine' fnd_of [Str.ofString "base", Str.ofString "e", Str.ofString "size", Str.ofString "w", Str.ofString "one", Str.ofString "times"] [Str.ofString "spot", Str.ofString "table", Str.ofString "found", Str.ofString "value", Str.ofString "many", Str.ofString "turn"] (f := 240) ?ho ?h1 ?h2 ?h3 ?h4 ?h5 ?h6 ?h7 ?h8 ?h9 ?h10 ?h11 ?h12 ?_
  case h3 => exact bt6 fun _ _ _ _ _ _ => by kernel_rfl
  (case ho => k_is)
  (case h1 => kernel_rfl)
  (case h2 => kernel_rfl)
  (case h4 => kernel_rfl)
  (case h5 => kernel_rfl)
  (case h6 => kernel_rfl)
  (case h7 => kernel_rfl)
  (case h8 => kernel_rfl)
  (case h9 => kernel_rfl)
  (case h10 => kernel_rfl)
  (case h11 => kernel_rfl)
  (case h12 => kernel_rfl)
  unfold d_by_windows b_by_windows l_by_windows_2 l_by_windows_2t l_by_windows_2b l_by_windows_1 l_by_windows_1b
  refine (.cons (.ite (.eqnil ?_ ?_) (.cons (.ret (.var ?_ ?_))
  .nil) .nil)
  (.cons (.asgS (ns := [Str.ofString "table", Str.ofString "found"]) (.cons ?_ ?_ (.cons ?_ ?_ .nil)) ?_ (by decide) (.cons (.call (.gl ?_ ?_ ?_) (.cons (.var ?_ ?_) (.cons (.var ?_ ?_) (.cons (.var ?_ ?_) .nil)))) (.cons .none .nil)) ?_)
  (.cons (.asg ?_ ?_ (.bin (.call (.gl ?_ ?_ ?_) (.cons (.var ?_ ?_) (.cons (.var ?_ ?_) .nil))) .int))
  (.cons (.wh (.cmp (.var ?_ ?_) .int) (.cons (.ite (.cmp (.call (.gl ?_ ?_ ?_) (.cons (.var ?_ ?_) (.cons (.var ?_ ?_) (.cons (.var ?_ ?_) .nil)))) .int) (.cons (.asg ?_ ?_ (.call (.var ?_ ?_) (.cons (.var ?_ ?_) (.cons (.var ?_ ?_) .nil))))
  (.cons (.aug ?_ ?_ (.inr (.inl rfl)) .int)
  (.cons .cont
  .nil))) .nil)
  (.cons (.asgU (.cons ?_ ?_ (.cons ?_ ?_ .nil)) (.call (.gl ?_ ?_ ?_) (.cons (.var ?_ ?_) (.cons (.var ?_ ?_) (.cons (.var ?_ ?_) (.cons (.var ?_ ?_) .nil))))) ?_)
  (.cons (.ite (.isNone (.var ?_ ?_)) (.cons (.asg ?_ ?_ (.idxv ?_ ?_ (.bin (.var ?_ ?_) .int)))
  .nil) (.cons (.forR1 ⟨?_, ?_⟩ ?_ ?_ (.var ?_ ?_) (.cons (.asg ?_ ?_ (.call (.var ?_ ?_) (.cons (.var ?_ ?_) (.cons (.var ?_ ?_) .nil))))
  .nil))
  (.cons (.asg ?_ ?_ (.call (.var ?_ ?_) (.cons (.var ?_ ?_) (.cons (.idxv ?_ ?_ (.bin (.var ?_ ?_) .int)) .nil))))
  .nil)))
  (.cons (.aug ?_ ?_ (.inr (.inl rfl)) (.var ?_ ?_))
  .nil)))))
  (.cons (.ret (.var ?_ ?_))
  .nil)))))
  all_goals (first | kernel_rfl | (intro env h; obtain ⟨⟩ := env; dsimp only at h; subst h; kernel_rfl))

set_option maxHeartbeats 4000000 in
theorem ok_check_modulus (q : Nat) (P : Params) (Z : Led) : Nonempty (FnD (hK P) (fa q) Z 27 d_check_modulus) := by
  refine' fnd_of [Str.ofString "m"] [] (f := 247) ?ho ?h1 ?h2 ?h3 ?h4 ?h5 ?h6 ?h7 ?h8 ?h9 ?h10 ?h11 ?h12 ?_
  case h3 => exact bt1 fun _ => by kernel_rfl
  (case ho => k_is)
  (case h1 => kernel_rfl)
  (case h2 => kernel_rfl)
  (case h4 => kernel_rfl)
  (case h5 => kernel_rfl)
  (case h6 => kernel_rfl)
  (case h7 => kernel_rfl)
  (case h8 => kernel_rfl)
  (case h9 => kernel_rfl)
  (case h10 => kernel_rfl)
  (case h11 => kernel_rfl)
  (case h12 => kernel_rfl)
  unfold d_check_modulus b_check_modulus
  refine (.cons (.ite (.eqnil ?_ ?_) (.cons .raise
  .nil) .nil)
  .nil)
  all_goals (first | kernel_rfl | (intro env h; obtain ⟨⟩ := env; dsimp only at h; subst h; kernel_rfl))

set_option maxHeartbeats 4000000 in
theorem ok_unit_rest (q : Nat) (P : Params) (Z : Led) : Nonempty (FnD (hK P) (fa q) Z 28 d_unit_rest) := by
  refine' fnd_of [Str.ofString "m"] [] (f := 254) ?ho ?h1 ?h2 ?h3 ?h4 ?h5 ?h6 ?h7 ?h8 ?h9 ?h10 ?h11 ?h12 ?_
  case h3 => exact bt1 fun _ => by kernel_rfl
  (case ho => k_is)
  (case h1 => kernel_rfl)
  (case h2 => kernel_rfl)
  (case h4 => kernel_rfl)
  (case h5 => kernel_rfl)
  (case h6 => kernel_rfl)
  (case h7 => kernel_rfl)
  (case h8 => kernel_rfl)
  (case h9 => kernel_rfl)
  (case h10 => kernel_rfl)
  (case h11 => kernel_rfl)
  (case h12 => kernel_rfl)
  unfold d_unit_rest b_unit_rest
  refine (.cons (.ret (.ite (.cmp (.var ?_ ?_) (.list (by decide) (.cons .int .nil))) (.list (by decide) .nil) (.list (by decide) (.cons .int .nil))))
  .nil)
  all_goals (first | kernel_rfl | (intro env h; obtain ⟨⟩ := env; dsimp only at h; subst h; kernel_rfl))

set_option maxHeartbeats 4000000 in
theorem ok_mul_school (q : Nat) (P : Params) (Z : Led) : Nonempty (FnD (hK P) (fa q) Z 29 d_mul_school) := by
  refine' fnd_of [Str.ofString "a", Str.ofString "b", Str.ofString "w"] [Str.ofString "found", Str.ofString "mask", Str.ofString "at", Str.ofString "limb", Str.ofString "carry", Str.ofString "spot", Str.ofString "other"] (f := 275) ?ho ?h1 ?h2 ?h3 ?h4 ?h5 ?h6 ?h7 ?h8 ?h9 ?h10 ?h11 ?h12 ?_
  case h3 => exact bt3 fun _ _ _ => by kernel_rfl
  (case ho => k_is)
  (case h1 => kernel_rfl)
  (case h2 => kernel_rfl)
  (case h4 => kernel_rfl)
  (case h5 => kernel_rfl)
  (case h6 => kernel_rfl)
  (case h7 => kernel_rfl)
  (case h8 => kernel_rfl)
  (case h9 => kernel_rfl)
  (case h10 => kernel_rfl)
  (case h11 => kernel_rfl)
  (case h12 => kernel_rfl)
  unfold d_mul_school b_mul_school l_mul_school_2 l_mul_school_2b l_mul_school_1 l_mul_school_1b
  refine (.cons (.asgS (ns := [Str.ofString "found", Str.ofString "mask"]) (.cons ?_ ?_ (.cons ?_ ?_ .nil)) ?_ (by decide) (.cons (.bin (.list (by decide) (.cons .int .nil)) (.bin (.lenv ⟨?_, ?_⟩ ?_ ?_) (.lenv ⟨?_, ?_⟩ ?_ ?_))) (.cons (.bin (.bin .int (.var ?_ ?_)) .int) .nil)) ?_)
  (.cons (.forE ⟨?_, ?_⟩ ?_ ?_ ?_ ?_ (.var ?_ ?_) (.cons (.asg ?_ ?_ .int)
  (.cons (.forE ⟨?_, ?_⟩ ?_ ?_ ?_ ?_ (.var ?_ ?_) (.cons (.aug ?_ ?_ (.inl rfl) (.bin (.idxv ?_ ?_ (.bin (.var ?_ ?_) (.var ?_ ?_))) (.bin (.var ?_ ?_) (.var ?_ ?_))))
  (.cons (.seti ?_ ?_ (.bin (.var ?_ ?_) (.var ?_ ?_)) (.bin (.var ?_ ?_) (.var ?_ ?_)))
  (.cons (.aug ?_ ?_ (.inr (.inr (.inr (.inl rfl)))) (.var ?_ ?_))
  .nil))))
  (.cons (.seti ?_ ?_ (.bin (.var ?_ ?_) (.lenv ⟨?_, ?_⟩ ?_ ?_)) (.var ?_ ?_))
  .nil))))
  (.cons (.ret (.call (.gl ?_ ?_ ?_) (.cons (.var ?_ ?_) .nil)))
  .nil)))
  all_goals (first | kernel_rfl | (intro env h; obtain ⟨⟩ := env; dsimp only at h; subst h; kernel_rfl))

set_option maxHeartbeats 4000000 in
theorem ok_divrem_small (q : Nat) (P : Params) (Z : Led) : Nonempty (FnD (hK P) (fa q) Z 30 d_divrem_small) := by
  refine' fnd_of [Str.ofString "a", Str.ofString "b", Str.ofString "w"] [Str.ofString "quotient", Str.ofString "rest"] (f := 282) ?ho ?h1 ?h2 ?h3 ?h4 ?h5 ?h6 ?h7 ?h8 ?h9 ?h10 ?h11 ?h12 ?_
  case h3 => exact bt3 fun _ _ _ => by kernel_rfl
  (case ho => k_is)
  (case h1 => kernel_rfl)
  (case h2 => kernel_rfl)
  (case h4 => kernel_rfl)
  (case h5 => kernel_rfl)
  (case h6 => kernel_rfl)
  (case h7 => kernel_rfl)
  (case h8 => kernel_rfl)
  (case h9 => kernel_rfl)
  (case h10 => kernel_rfl)
  (case h11 => kernel_rfl)
  (case h12 => kernel_rfl)
  unfold d_divrem_small b_divrem_small
  refine (.cons (.asgU (.cons ?_ ?_ (.cons ?_ ?_ .nil)) (.call (.gl ?_ ?_ ?_) (.cons (.var ?_ ?_) (.cons (.idxv ?_ ?_ .int) (.cons (.var ?_ ?_) .nil)))) ?_)
  (.cons (.ret (.tup (by decide) (.cons (.var ?_ ?_) (.cons (.ite (.cmp (.var ?_ ?_) .int) (.list (by decide) (.cons (.var ?_ ?_) .nil)) (.list (by decide) .nil)) .nil))))
  .nil))
  all_goals (first | kernel_rfl | (intro env h; obtain ⟨⟩ := env; dsimp only at h; subst h; kernel_rfl))

set_option maxHeartbeats 4000000 in
theorem ok_guessed_limb (q : Nat) (P : Params) (Z : Led) : Nonempty (FnD (hK P) (fa q) Z 31 d_guessed_limb) := by
  refine' fnd_of [Str.ofString "top", Str.ofString "first", Str.ofString "second", Str.ofString "w"] [Str.ofString "limb", Str.ofString "rest", Str.ofString "high", Str.ofString "base"] (f := 289) ?ho ?h1 ?h2 ?h3 ?h4 ?h5 ?h6 ?h7 ?h8 ?h9 ?h10 ?h11 ?h12 ?_
  case h3 => exact bt4 fun _ _ _ _ => by kernel_rfl
  (case ho => k_is)
  (case h1 => kernel_rfl)
  (case h2 => kernel_rfl)
  (case h4 => kernel_rfl)
  (case h5 => kernel_rfl)
  (case h6 => kernel_rfl)
  (case h7 => kernel_rfl)
  (case h8 => kernel_rfl)
  (case h9 => kernel_rfl)
  (case h10 => kernel_rfl)
  (case h11 => kernel_rfl)
  (case h12 => kernel_rfl)
  unfold d_guessed_limb b_guessed_limb l_guessed_limb_1 l_guessed_limb_1t l_guessed_limb_1b
  refine (.cons (.asgS (ns := [Str.ofString "high", Str.ofString "base"]) (.cons ?_ ?_ (.cons ?_ ?_ .nil)) ?_ (by decide) (.cons (.bin (.bin (.idxv ?_ ?_ .int) (.var ?_ ?_)) (.idxv ?_ ?_ .int)) (.cons (.bin .int (.var ?_ ?_)) .nil)) ?_)
  (.cons (.asg ?_ ?_ (.min ⟨?_, ?_⟩ (.bin (.var ?_ ?_) (.var ?_ ?_)) (.bin (.var ?_ ?_) .int)))
  (.cons (.asg ?_ ?_ (.bin (.var ?_ ?_) (.bin (.var ?_ ?_) (.var ?_ ?_))))
  (.cons (.wh (.and (.cmp (.var ?_ ?_) (.var ?_ ?_)) (.cmp (.bin (.var ?_ ?_) (.var ?_ ?_)) (.bin (.bin (.var ?_ ?_) (.var ?_ ?_)) (.idxv ?_ ?_ .int)))) (.cons (.aug ?_ ?_ (.inr (.inl rfl)) .int)
  (.cons (.aug ?_ ?_ (.inl rfl) (.var ?_ ?_))
  .nil)))
  (.cons (.ret (.var ?_ ?_))
  .nil)))))
  all_goals (first | kernel_rfl | (intro env h; obtain ⟨⟩ := env; dsimp only at h; subst h; kernel_rfl))

set_option maxHeartbeats 4000000 in
theorem ok_take_away (q : Nat) (P : Params) (Z : Led) : Nonempty (FnD (hK P) (fa q) Z 32 d_take_away) := by
  refine' fnd_of [Str.ofString "rest", Str.ofString "b", Str.ofString "limb", Str.ofString "at", Str.ofString "w"] [Str.ofString "here", Str.ofString "carry", Str.ofString "base", Str.ofString "spot", Str.ofString "other"] (f := 296) ?ho ?h1 ?h2 ?h3 ?h4 ?h5 ?h6 ?h7 ?h8 ?h9 ?h10 ?h11 ?h12 ?_
  case h3 => exact bt5 fun _ _ _ _ _ => by kernel_rfl
  (case ho => k_is)
  (case h1 => kernel_rfl)
  (case h2 => kernel_rfl)
  (case h4 => kernel_rfl)
  (case h5 => kernel_rfl)
  (case h6 => kernel_rfl)
  (case h7 => kernel_rfl)
  (case h8 => kernel_rfl)
  (case h9 => kernel_rfl)
  (case h10 => kernel_rfl)
  (case h11 => kernel_rfl)
  (case h12 => kernel_rfl)
  unfold d_take_away b_take_away l_take_away_1 l_take_away_1b
  refine (.cons (.asgS (ns := [Str.ofString "carry", Str.ofString "base"]) (.cons ?_ ?_ (.cons ?_ ?_ .nil)) ?_ (by decide) (.cons .int (.cons (.bin .int (.var ?_ ?_)) .nil)) ?_)
  (.cons (.forE ⟨?_, ?_⟩ ?_ ?_ ?_ ?_ (.var ?_ ?_) (.cons (.asg ?_ ?_ (.bin (.idxv ?_ ?_ (.bin (.var ?_ ?_) (.var ?_ ?_))) (.bin (.bin (.bin (.var ?_ ?_) (.var ?_ ?_)) (.var ?_ ?_)) (.var ?_ ?_))))
  (.cons (.asg ?_ ?_ (.bin (.bin (.bin (.bin (.var ?_ ?_) (.var ?_ ?_)) (.var ?_ ?_)) (.var ?_ ?_)) (.ite (.cmp (.var ?_ ?_) .int) .int .int)))
  (.cons (.seti ?_ ?_ (.bin (.var ?_ ?_) (.var ?_ ?_)) (.ite (.cmp (.var ?_ ?_) .int) (.bin (.var ?_ ?_) (.var ?_ ?_)) (.var ?_ ?_)))
  .nil))))
  (.cons (.asg ?_ ?_ (.bin (.idxv ?_ ?_ (.bin (.var ?_ ?_) (.lenv ⟨?_, ?_⟩ ?_ ?_))) (.var ?_ ?_)))
  (.cons (.seti ?_ ?_ (.bin (.var ?_ ?_) (.lenv ⟨?_, ?_⟩ ?_ ?_)) (.ite (.cmp (.var ?_ ?_) .int) (.bin (.var ?_ ?_) (.var ?_ ?_)) (.var ?_ ?_)))
  (.cons (.ret (.ite (.cmp (.var ?_ ?_) .int) .int .int))
  .nil)))))
  all_goals (first | kernel_rfl | (intro env h; obtain ⟨⟩ := env; dsimp only at h; subst h; kernel_rfl))

set_option maxHeartbeats 4000000 in
theorem ok_put_back (q : Nat) (P : Params) (Z : Led) : Nonempty (FnD (hK P) (fa q) Z 33 d_put_back) := by
  refine' fnd_of [Str.ofString "rest", Str.ofString "b", Str.ofString "at", Str.ofString "w"] [Str.ofString "carry", Str.ofString "mask", Str.ofString "spot", Str.ofString "other"] (f := 303) ?ho ?h1 ?h2 ?h3 ?h4 ?h5 ?h6 ?h7 ?h8 ?h9 ?h10 ?h11 ?h12 ?_
  case h3 => exact bt4 fun _ _ _ _ => by kernel_rfl
  (case ho => k_is)
  (case h1 => kernel_rfl)
  (case h2 => kernel_rfl)
  (case h4 => kernel_rfl)
  (case h5 => kernel_rfl)
  (case h6 => kernel_rfl)
  (case h7 => kernel_rfl)
  (case h8 => kernel_rfl)
  (case h9 => kernel_rfl)
  (case h10 => kernel_rfl)
  (case h11 => kernel_rfl)
  (case h12 => kernel_rfl)
  unfold d_put_back b_put_back l_put_back_1 l_put_back_1b
  refine (.cons (.asgS (ns := [Str.ofString "carry", Str.ofString "mask"]) (.cons ?_ ?_ (.cons ?_ ?_ .nil)) ?_ (by decide) (.cons .int (.cons (.bin (.bin .int (.var ?_ ?_)) .int) .nil)) ?_)
  (.cons (.forE ⟨?_, ?_⟩ ?_ ?_ ?_ ?_ (.var ?_ ?_) (.cons (.aug ?_ ?_ (.inl rfl) (.bin (.idxv ?_ ?_ (.bin (.var ?_ ?_) (.var ?_ ?_))) (.var ?_ ?_)))
  (.cons (.seti ?_ ?_ (.bin (.var ?_ ?_) (.var ?_ ?_)) (.bin (.var ?_ ?_) (.var ?_ ?_)))
  (.cons (.aug ?_ ?_ (.inr (.inr (.inr (.inl rfl)))) (.var ?_ ?_))
  .nil))))
  (.cons (.seti ?_ ?_ (.bin (.var ?_ ?_) (.lenv ⟨?_, ?_⟩ ?_ ?_)) (.bin (.bin (.idxv ?_ ?_ (.bin (.var ?_ ?_) (.lenv ⟨?_, ?_⟩ ?_ ?_))) (.var ?_ ?_)) (.var ?_ ?_)))
  .nil)))
  all_goals (first | kernel_rfl | (intro env h; obtain ⟨⟩ := env; dsimp only at h; subst h; kernel_rfl))

set_option maxHeartbeats 4000000 in
theorem ok_divide_rows (q : Nat) (P : Params) (Z : Led) : Nonempty (FnD (hK P) (fa q) Z 34 d_divide_rows) := by
  refine' fnd_of [Str.ofString "rest", Str.ofString "b", Str.ofString "w"] [Str.ofString "size", Str.ofString "quotient", Str.ofString "at", Str.ofString "limb"] (f := 310) ?ho ?h1 ?h2 ?h3 ?h4 ?h5 ?h6 ?h7 ?h8 ?h9 ?h10 ?h11 ?h12 ?_
  case h3 => exact bt3 fun _ _ _ => by kernel_rfl
  (case ho => k_is)
  (case h1 => kernel_rfl)
  (case h2 => kernel_rfl)
  (case h4 => kernel_rfl)
  (case h5 => kernel_rfl)
  (case h6 => kernel_rfl)
  (case h7 => kernel_rfl)
  (case h8 => kernel_rfl)
  (case h9 => kernel_rfl)
  (case h10 => kernel_rfl)
  (case h11 => kernel_rfl)
  (case h12 => kernel_rfl)
  unfold d_divide_rows b_divide_rows l_divide_rows_1 l_divide_rows_1b
  refine (.cons (.asg ?_ ?_ (.lenv ⟨?_, ?_⟩ ?_ ?_))
  (.cons (.asg ?_ ?_ (.bin (.list (by decide) (.cons .int .nil)) (.bin (.lenv ⟨?_, ?_⟩ ?_ ?_) (.var ?_ ?_))))
  (.cons (.forR3 ⟨?_, ?_⟩ ?_ ?_ (.bin (.bin (.lenv ⟨?_, ?_⟩ ?_ ?_) (.var ?_ ?_)) .int) (.neg .int) (.cons (.asg ?_ ?_ (.call (.gl ?_ ?_ ?_) (.cons (.slc ?_ ?_ (.some (.bin (.bin (.var ?_ ?_) (.var ?_ ?_)) .int)) (.some (.bin (.bin (.var ?_ ?_) (.var ?_ ?_)) .int))) (.cons (.idxv ?_ ?_ (.bin (.var ?_ ?_) .int)) (.cons (.idxv ?_ ?_ (.bin (.var ?_ ?_) .int)) (.cons (.var ?_ ?_) .nil))))))
  (.cons (.ite (.cmp (.callio (.gl ?_ ?_ ?_) ?_ ?_ (.cons (.var ?_ ?_) (.cons (.var ?_ ?_) (.cons (.var ?_ ?_) (.cons (.var ?_ ?_) .nil))))) .int) (.cons (.aug ?_ ?_ (.inr (.inl rfl)) .int)
  (.cons (.ex (.callio (.gl ?_ ?_ ?_) ?_ ?_ (.cons (.var ?_ ?_) (.cons (.var ?_ ?_) (.cons (.var ?_ ?_) .nil)))))
  .nil)) .nil)
  (.cons (.seti ?_ ?_ (.var ?_ ?_) (.var ?_ ?_))
  .nil))))
  (.cons (.ret (.var ?_ ?_))
  .nil))))
  all_goals (first | kernel_rfl | (intro env h; obtain ⟨⟩ := env; dsimp only at h; subst h; kernel_rfl))

set_option maxHeartbeats 4000000 in
theorem ok_divrem_school (q : Nat) (P : Params) (Z : Led) : Nonempty (FnD (hK P) (fa q) Z 35 d_divrem_school) := by
  refine' fnd_of [Str.ofString "a", Str.ofString "b", Str.ofString "w"] [Str.ofString "shift", Str.ofString "divisor", Str.ofString "rest", Str.ofString "quotient"] (f := 317) ?ho ?h1 ?h2 ?h3 ?h4 ?h5 ?h6 ?h7 ?h8 ?h9 ?h10 ?h11 ?h12 ?_
  case h3 => exact bt3 fun _ _ _ => by kernel_rfl
  (case ho => k_is)
  (case h1 => kernel_rfl)
  (case h2 => kernel_rfl)
  (case h4 => kernel_rfl)
  (case h5 => kernel_rfl)
  (case h6 => kernel_rfl)
  (case h7 => kernel_rfl)
  (case h8 => kernel_rfl)
  (case h9 => kernel_rfl)
  (case h10 => kernel_rfl)
  (case h11 => kernel_rfl)
  (case h12 => kernel_rfl)
  unfold d_divrem_school b_divrem_school
  refine (.cons (.ite (.cmp (.lenv ⟨?_, ?_⟩ ?_ ?_) .int) (.cons .raise
  .nil) .nil)
  (.cons (.ite (.cmp (.call (.gl ?_ ?_ ?_) (.cons (.var ?_ ?_) (.cons (.var ?_ ?_) .nil))) .int) (.cons (.ret (.tup (by decide) (.cons (.list (by decide) .nil) (.cons (.slc ?_ ?_ .none .none) .nil))))
  .nil) .nil)
  (.cons (.ite (.cmp (.lenv ⟨?_, ?_⟩ ?_ ?_) .int) (.cons (.ret (.call (.gl ?_ ?_ ?_) (.cons (.var ?_ ?_) (.cons (.var ?_ ?_) (.cons (.var ?_ ?_) .nil)))))
  .nil) .nil)
  (.cons (.asg ?_ ?_ (.bin (.var ?_ ?_) (.call (.gl ?_ ?_ ?_) (.cons (.list (by decide) (.cons (.idxv ?_ ?_ (.neg .int)) .nil)) (.cons (.var ?_ ?_) .nil)))))
  (.cons (.asg ?_ ?_ (.call (.gl ?_ ?_ ?_) (.cons (.var ?_ ?_) (.cons (.var ?_ ?_) (.cons (.var ?_ ?_) .nil)))))
  (.cons (.asg ?_ ?_ (.call (.gl ?_ ?_ ?_) (.cons (.var ?_ ?_) (.cons (.var ?_ ?_) (.cons (.var ?_ ?_) .nil)))))
  (.cons (.asg ?_ ?_ (.bin (.var ?_ ?_) (.bin (.list (by decide) (.cons .int .nil)) (.bin (.bin (.lenv ⟨?_, ?_⟩ ?_ ?_) .int) (.lenv ⟨?_, ?_⟩ ?_ ?_)))))
  (.cons (.asg ?_ ?_ (.callio (.gl ?_ ?_ ?_) ?_ ?_ (.cons (.var ?_ ?_) (.cons (.var ?_ ?_) .nil))))
  (.cons (.ret (.tup (by decide) (.cons (.call (.gl ?_ ?_ ?_) (.cons (.var ?_ ?_) .nil)) (.cons (.call (.gl ?_ ?_ ?_) (.cons (.call (.gl ?_ ?_ ?_) (.cons (.var ?_ ?_) .nil)) (.cons (.var ?_ ?_) (.cons (.var ?_ ?_) .nil)))) .nil))))
  .nil)))))))))
  all_goals (first | kernel_rfl | (intro env h; obtain ⟨⟩ := env; dsimp only at h; subst h; kernel_rfl))

set_option maxHeartbeats 4000000 in
theorem ok_law_turned (q : Nat) (P : Params) (Z : Led) : Nonempty (FnD (hK P) (fa q) Z 36 d_law_turned) := by
  refine' fnd_of [Str.ofString "dial", Str.ofString "many"] [] (f := 324) ?ho ?h1 ?h2 ?h3 ?h4 ?h5 ?h6 ?h7 ?h8 ?h9 ?h10 ?h11 ?h12 ?_
  case h3 => exact bt2 fun _ _ => by kernel_rfl
  (case ho => k_is)
  (case h1 => kernel_rfl)
  (case h2 => kernel_rfl)
  (case h4 => kernel_rfl)
  (case h5 => kernel_rfl)
  (case h6 => kernel_rfl)
  (case h7 => kernel_rfl)
  (case h8 => kernel_rfl)
  (case h9 => kernel_rfl)
  (case h10 => kernel_rfl)
  (case h11 => kernel_rfl)
  (case h12 => kernel_rfl)
  unfold d_law_turned b_law_turned
  refine (.cons (.seti ?_ ?_ .int (.bin (.idxv ?_ ?_ .int) .int))
  (.cons (.ite (.cmp (.idxv ?_ ?_ .int) (.lene ⟨?_, ?_⟩ (.idxv ?_ ?_ .int))) (.cons (.ret (.bin (.idxe (.idxv ?_ ?_ .int) (.bin (.idxv ?_ ?_ .int) .int)) (.var ?_ ?_)))
  .nil) .nil)
  (.cons (.ret (.bin (.bin (.bin (.bin .int (.idxv ?_ ?_ .int)) (.bin (.idxv ?_ ?_ .int) .int)) .int) (.var ?_ ?_)))
  .nil)))
  all_goals (first | kernel_rfl | (intro env h; obtain ⟨⟩ := env; dsimp only at h; subst h; kernel_rfl))

set_option maxHeartbeats 4000000 in
theorem ok_law_limbs (q : Nat) (P : Params) (Z : Led) : Nonempty (FnD (hK P) (fa q) Z 37 d_law_limbs) := by
  refine' fnd_of [Str.ofString "number", Str.ofString "w"] [Str.ofString "found"] (f := 331) ?ho ?h1 ?h2 ?h3 ?h4 ?h5 ?h6 ?h7 ?h8 ?h9 ?h10 ?h11 ?h12 ?_
  case h3 => exact bt2 fun _ _ => by kernel_rfl
  (case ho => k_is)
  (case h1 => kernel_rfl)
  (case h2 => kernel_rfl)
  (case h4 => kernel_rfl)
  (case h5 => kernel_rfl)
  (case h6 => kernel_rfl)
  (case h7 => kernel_rfl)
  (case h8 => kernel_rfl)
  (case h9 => kernel_rfl)
  (case h10 => kernel_rfl)
  (case h11 => kernel_rfl)
  (case h12 => kernel_rfl)
  unfold d_law_limbs b_law_limbs l_law_limbs_1 l_law_limbs_1t l_law_limbs_1b
  refine (.cons (.asg ?_ ?_ (.list (by decide) .nil))
  (.cons (.wh (.cmp (.var ?_ ?_) .int) (.cons (.app ?_ ?_ (.bin (.var ?_ ?_) (.bin .int (.var ?_ ?_))) ?_)
  (.cons (.asg ?_ ?_ (.bin (.var ?_ ?_) (.bin .int (.var ?_ ?_))))
  .nil)))
  (.cons (.ret (.var ?_ ?_))
  .nil)))
  all_goals (first | kernel_rfl | (intro env h; obtain ⟨⟩ := env; dsimp only at h; subst h; kernel_rfl))

set_option maxHeartbeats 4000000 in
theorem ok_law_divided (q : Nat) (P : Params) (Z : Led) : Nonempty (FnD (hK P) (fa q) Z 38 d_law_divided) := by
  refine' fnd_of [Str.ofString "base", Str.ofString "p"] [Str.ofString "digits", Str.ofString "rest"] (f := 343) ?ho ?h1 ?h2 ?h3 ?h4 ?h5 ?h6 ?h7 ?h8 ?h9 ?h10 ?h11 ?h12 ?_
  case h3 => exact bt2 fun _ _ => by kernel_rfl
  (case ho => k_is)
  (case h1 => kernel_rfl)
  (case h2 => kernel_rfl)
  (case h4 => kernel_rfl)
  (case h5 => kernel_rfl)
  (case h6 => kernel_rfl)
  (case h7 => kernel_rfl)
  (case h8 => kernel_rfl)
  (case h9 => kernel_rfl)
  (case h10 => kernel_rfl)
  (case h11 => kernel_rfl)
  (case h12 => kernel_rfl)
  unfold d_law_divided b_law_divided l_law_divided_1 l_law_divided_1t l_law_divided_1b
  refine (.cons (.asgS (ns := [Str.ofString "digits", Str.ofString "rest"]) (.cons ?_ ?_ (.cons ?_ ?_ .nil)) ?_ (by decide) (.cons (.list (by decide) .nil) (.cons .int .nil)) ?_)
  (.cons (.wh (.or (.cmp (.var ?_ ?_) .int) (.eqnil ?_ ?_)) (.cons (.app ?_ ?_ (.bin (.bin (.var ?_ ?_) (.var ?_ ?_)) (.var ?_ ?_)) ?_)
  (.cons (.asg ?_ ?_ (.bin (.bin (.var ?_ ?_) (.var ?_ ?_)) (.var ?_ ?_)))
  .nil)))
  (.cons (.ret (.var ?_ ?_))
  .nil)))
  all_goals (first | kernel_rfl | (intro env h; obtain ⟨⟩ := env; dsimp only at h; subst h; kernel_rfl))

end Mine
end PFnDers

section PEv
namespace Mine

noncomputable def TT (X : Option FDef) (k : Nat) : Option FDef := if k = 50 then X else tab.lookup k

noncomputable abbrev vi (l : List Int) : V := .list (l.map .int)

theorem setOk_unset : setOk (some .unset) = true := rfl
theorem setOk_val (v : V) : setOk (some (.val v)) = true := rfl
theorem setOk_own (vs : List V) : setOk (some (.own vs)) = true := rfl
theorem xS_wh {C : CallF} {b : IB} {s : ISs} {fr : Frame} : xS C (.wh b s) fr = whileI (evalB C b) (xSs C s) fr := by
  simp only [xx1, xx2, xx3, xx4, xx5, xx6, xx7, xx8, xx9, xx10, xx11, xx12, xx13, xx14, xx15, xx16]
noncomputable def stepR (C : CallF) (i : Nat) (s : ISs) (v : V) (f : Frame) : Option (Fl × Frame) := match put f i (.val v) with
  | none => none
  | some f1 => xSs C s f1
noncomputable def stepE (C : CallF) (i j : Nat) (s : ISs) (v : V) (f : Frame) : Option (Fl × Frame) := match v with
  | .tup ws => match putAll [i, j] (ws.map .val) f with
    | none => none
    | some f1 => xSs C s f1
  | _ => none
theorem xS_forR {C : CallF} {kind i : Nat} {lo hi : IE} {s : ISs} {fr fr1 fr2 : Frame} {a b : Int} (h1 : evalE C lo fr = some (.val (.int a), fr1)) (h2 : evalE C hi fr1 = some (.val (.int b), fr2)) (h3 : a.natAbs < lim) (h4 : b.natAbs < lim) :
    xS C (.forR kind i lo hi s) fr = forI (stepR C i s) ((rangeI (kind == 3) a b).map .int) fr2 := by
  simp only [xx1, xx2, xx3, xx4, xx5, xx6, xx7, xx8, xx9, xx10, xx11, xx12, xx13, xx14, xx15, xx16, h1, h2, h3, h4, and_self, if_true]
  rfl
theorem xS_forL {C : CallF} {i : Nat} {e : IE} {s : ISs} {fr fr1 : Frame} {vs : List V} (h1 : evalE C e fr = some (.val (.list vs), fr1)) (h3 : vs.length ≤ lenLim) :
    xS C (.forL i e s) fr = forI (stepR C i s) vs fr1 := by
  simp only [xx1, xx2, xx3, xx4, xx5, xx6, xx7, xx8, xx9, xx10, xx11, xx12, xx13, xx14, xx15, xx16, h1, h3, if_true]
  rfl
theorem xS_forE {C : CallF} {i j : Nat} {e : IE} {s : ISs} {fr fr1 : Frame} {vs : List V} (h1 : evalE C e fr = some (.val (.list vs), fr1)) (h3 : vs.length ≤ lenLim) :
    xS C (.forE i j e s) fr = forI (stepE C i j s) (enumFrom 0 vs) fr1 := by
  simp only [xx1, xx2, xx3, xx4, xx5, xx6, xx7, xx8, xx9, xx10, xx11, xx12, xx13, xx14, xx15, xx16, h1, h3, if_true]
  rfl

theorem range_up_nil {lo hi : Int} (h : hi ≤ lo) : rangeI false lo hi = [] := by
  unfold rangeI
  rw [if_neg (by simp), show (hi - lo).toNat = 0 from by omega]; rfl
theorem range_up_cons {lo hi : Int} (h : lo < hi) : rangeI false lo hi = lo :: rangeI false (lo + 1) hi := by
  unfold rangeI
  rw [if_neg (by simp), if_neg (by simp), show (hi - lo).toNat = (hi - (lo + 1)).toNat + 1 from by omega, List.range_succ_eq_map]
  simp only [List.map_cons, List.map_map]
  refine congr (congrArg _ (by simp)) (List.map_congr_left fun k _ => ?_)
  simp only [Function.comp]
  omega
theorem range_dn_nil {lo hi : Int} (h : lo ≤ hi) : rangeI true lo hi = [] := by
  unfold rangeI
  rw [if_pos rfl, show (lo - hi).toNat = 0 from by omega]; rfl
theorem range_dn_cons {lo hi : Int} (h : hi < lo) : rangeI true lo hi = lo :: rangeI true (lo - 1) hi := by
  unfold rangeI
  rw [if_pos rfl, if_pos rfl, show (lo - hi).toNat = (lo - 1 - hi).toNat + 1 from by omega, List.range_succ_eq_map]
  simp only [List.map_cons, List.map_map]
  refine congr (congrArg _ (by simp)) (List.map_congr_left fun k _ => ?_)
  simp only [Function.comp]
  omega

theorem for_up {body : V → Frame → Option (Fl × Frame)} (I : Int → Frame → Prop) {lo hi : Int} (hle : lo ≤ hi) (step : ∀ k f, lo ≤ k → k < hi → I k f → ∃ f', body (.int k) f = some (.next, f') ∧ I (k + 1) f') (f : Frame) (h : I lo f) :
    ∃ f', forI body ((rangeI false lo hi).map .int) f = some (.next, f') ∧ I hi f' := by
  obtain ⟨n, hn⟩ : ∃ n : Nat, hi = lo + n := ⟨(hi - lo).toNat, by omega⟩
  induction n generalizing lo f with
  | zero => subst hn; rw [range_up_nil (by omega)]; exact ⟨f, rfl, by simpa using h⟩
  | succ n ih =>
    rw [range_up_cons (by omega)]
    obtain ⟨f1, e1, h1⟩ := step lo f (by omega) (by omega) h
    obtain ⟨f2, e2, h2⟩ := ih (lo := lo + 1) (by omega) (fun k f a b => step k f (by omega) b) f1 h1 (by omega)
    refine ⟨f2, ?_, h2⟩
    simp only [List.map_cons, fo1, fo2, e1]
    exact e2
theorem for_dn {body : V → Frame → Option (Fl × Frame)} (I : Int → Frame → Prop) {lo hi : Int} (hle : hi ≤ lo) (step : ∀ k f, hi < k → k ≤ lo → I k f → ∃ f', body (.int k) f = some (.next, f') ∧ I (k - 1) f') (f : Frame) (h : I lo f) :
    ∃ f', forI body ((rangeI true lo hi).map .int) f = some (.next, f') ∧ I hi f' := by
  obtain ⟨n, hn⟩ : ∃ n : Nat, lo = hi + n := ⟨(lo - hi).toNat, by omega⟩
  induction n generalizing lo f with
  | zero => subst hn; rw [range_dn_nil (by omega)]; exact ⟨f, rfl, by simpa using h⟩
  | succ n ih =>
    rw [range_dn_cons (by omega)]
    obtain ⟨f1, e1, h1⟩ := step lo f (by omega) (by omega) h
    obtain ⟨f2, e2, h2⟩ := ih (lo := lo - 1) (by omega) (fun k f a b => step k f a (by omega)) f1 h1 (by omega)
    refine ⟨f2, ?_, h2⟩
    simp only [List.map_cons, fo1, fo2, e1]
    exact e2
theorem for_dn_ret {body : V → Frame → Option (Fl × Frame)} (I : Int → Frame → Prop) (R : V → Prop) {lo hi : Int} (hle : hi ≤ lo)
    (step : ∀ k f, hi < k → k ≤ lo → I k f → (∃ f', body (.int k) f = some (.next, f') ∧ I (k - 1) f') ∨ ∃ v f', body (.int k) f = some (.ret v, f') ∧ R v) (f : Frame) (h : I lo f) :
    (∃ f', forI body ((rangeI true lo hi).map .int) f = some (.next, f') ∧ I hi f') ∨ ∃ v f', forI body ((rangeI true lo hi).map .int) f = some (.ret v, f') ∧ R v := by
  obtain ⟨n, hn⟩ : ∃ n : Nat, lo = hi + n := ⟨(lo - hi).toNat, by omega⟩
  induction n generalizing lo f with
  | zero => subst hn; rw [range_dn_nil (by omega)]; exact .inl ⟨f, rfl, by simpa using h⟩
  | succ n ih =>
    rw [range_dn_cons (by omega)]
    rcases step lo f (by omega) (by omega) h with ⟨f1, e1, h1⟩ | ⟨v, f1, e1, h1⟩
    · rcases ih (lo := lo - 1) (by omega) (fun k f a b => step k f a (by omega)) f1 h1 (by omega) with ⟨f2, e2, h2⟩ | ⟨v, f2, e2, h2⟩
      · refine .inl ⟨f2, ?_, h2⟩
        simp only [List.map_cons, fo1, fo2, e1]; exact e2
      · refine .inr ⟨v, f2, ?_, h2⟩
        simp only [List.map_cons, fo1, fo2, e1]; exact e2
    · refine .inr ⟨v, f1, ?_, h1⟩
      simp only [List.map_cons, fo1, fo2, e1]
theorem for_list {body : V → Frame → Option (Fl × Frame)} (I : List V → Frame → Prop) (step : ∀ x r f, I (x :: r) f → ∃ f', body x f = some (.next, f') ∧ I r f') : ∀ (l : List V) (f : Frame), I l f → ∃ f', forI body l f = some (.next, f') ∧ I [] f'
  | [], f, h => ⟨f, rfl, h⟩
  | x :: r, f, h => by
    obtain ⟨f1, e1, h1⟩ := step x r f h
    obtain ⟨f2, e2, h2⟩ := for_list I step r f1 h1
    refine ⟨f2, ?_, h2⟩
    simp only [fo1, fo2, e1]; exact e2
theorem for_ints {body : V → Frame → Option (Fl × Frame)} (I : List Int → Frame → Prop) (step : ∀ x r f, I (x :: r) f → ∃ f', body (.int x) f = some (.next, f') ∧ I r f') : ∀ (l : List Int) (f : Frame), I l f → ∃ f', forI body (l.map .int) f = some (.next, f') ∧ I [] f'
  | [], f, h => ⟨f, rfl, h⟩
  | x :: r, f, h => by
    obtain ⟨f1, e1, h1⟩ := step x r f h
    obtain ⟨f2, e2, h2⟩ := for_ints I step r f1 h1
    refine ⟨f2, ?_, h2⟩
    simp only [List.map_cons, fo1, fo2, e1]; exact e2
theorem for_enum {body : V → Frame → Option (Fl × Frame)} (I : Nat → List Int → Frame → Prop) (step : ∀ n x r f, I n (x :: r) f → ∃ f', body (.tup [.int n, .int x]) f = some (.next, f') ∧ I (n + 1) r f') :
    ∀ (l : List Int) (n : Nat) (f : Frame), I n l f → ∃ f', forI body (enumFrom n (l.map .int)) f = some (.next, f') ∧ I (n + l.length) [] f'
  | [], n, f, h => ⟨f, rfl, h⟩
  | x :: r, n, f, h => by
    obtain ⟨f1, e1, h1⟩ := step n x r f h
    obtain ⟨f2, e2, h2⟩ := for_enum I step r (n + 1) f1 h1
    refine ⟨f2, ?_, ?_⟩
    · simp only [List.map_cons, enumFrom, fo1, fo2, e1]; exact e2
    · rw [show n + (x :: r).length = n + 1 + r.length from by simp; omega]; exact h2
theorem while_inv {t : Frame → Option (Bool × Frame)} {b : Frame → Option (Fl × Frame)} (I : Nat → Frame → Prop) (P : Frame → Prop)
    (step : ∀ n f, I n f → (∃ f1, t f = some (false, f1) ∧ P f1) ∨ ∃ f1 f2 n', t f = some (true, f1) ∧ (b f1 = some (.next, f2) ∨ b f1 = some (.cont, f2)) ∧ n' < n ∧ I n' f2) :
    ∀ (n : Nat) (f : Frame), I n f → ∃ f', whileI t b f = some (.next, f') ∧ P f' := by
  intro n
  induction n using Nat.strongRecOn with
  | _ n ih =>
    intro f h
    rcases step n f h with ⟨f1, e, hp⟩ | ⟨f1, f2, n', e, hb, hn, hi⟩
    · exact ⟨f1, whileI_stop e, hp⟩
    · obtain ⟨f3, e3, hp⟩ := ih n' hn f2 hi
      rcases hb with hb | hb
      · exact ⟨f3, whileI_step e hb e3, hp⟩
      · exact ⟨f3, whileI_cont e hb e3, hp⟩

theorem call_go {X : Option FDef} {d k : Nat} {fd : FDef} {args : List V} {fl : Fl} {r : V} (hT : TT X k = some fd) (hio : fd.io = false) (hn : args.length = fd.nargs)
    (hx : ∃ fr, xSs (callI (TT X) d) fd.body (fd.frame [] args) = some (fl, fr)) (hv : fl.val = some r) : callI (TT X) (d + 1) (.fn k) none args = some (r, []) := by
  obtain ⟨fr, hx⟩ := hx
  simp only [ca1, hT, hio, hn, Option.isSome, Option.getD, and_self, if_true, hx, hv, ioOf]
  simp
theorem call_goIo {X : Option FDef} {d k : Nat} {fd : FDef} {io o : List V} {args : List V} {fl : Fl} {r : V} (hT : TT X k = some fd) (hio : fd.io = true) (hn : args.length = fd.nargs)
    (hx : ∃ fr, xSs (callI (TT X) d) fd.body (fd.frame io args) = some (fl, fr) ∧ fr[0]? = some (.io o)) (hv : fl.val = some r) : callI (TT X) (d + 1) (.fn k) (some io) args = some (r, o) := by
  obtain ⟨fr, hx, ho⟩ := hx
  simp only [ca1, hT, hio, hn, Option.isSome, Option.getD, and_self, if_true, hx, hv, ioOf, ho, ioSlot]

/-! numbers -/
theorem intsV_map : ∀ l : List Int, intsV (l.map .int) = some l
  | [] => rfl
  | x :: r => by simp only [List.map_cons, intsV, intsV_map r, Option.map_some]
theorem item_pos {l : List Int} {k : Int} {x : Int} (h0 : 0 ≤ k) (h : l[k.toNat]? = some x) (hl : l.length ≤ lenLim) : item (l.map .int) k = some (.int x) := by
  have := (List.getElem?_eq_some_iff.mp h).1
  unfold item
  have hk : k.natAbs < lim := by unfold lenLim at hl; unfold lim; omega
  rw [if_pos hk, if_pos h0, List.getElem?_map, h]; rfl
theorem sm_of {x : Int} (h : 0 ≤ x) (h2 : x < 2 ^ 61) : x.natAbs < lim := by unfold lim; omega
theorem band_mask {x : Int} {w : Nat} : PySem.Builtin.bitAnd x (2 ^ w - 1) = x % 2 ^ w := by
  exact PySem.W.kbt_mask x w
theorem fdiv_pos {x b : Int} (h : 0 ≤ b) : x.fdiv b = x / b := Int.fdiv_eq_ediv_of_nonneg x h
theorem band_sh {x y : Int} {w : Nat} (hx : 0 ≤ x) (hy : 0 ≤ y) (h : y < 2 ^ w) : PySem.Builtin.bitAnd (x * 2 ^ w) y = 0 := by
  obtain ⟨a, rfl⟩ := Int.eq_ofNat_of_zero_le hx
  obtain ⟨b, rfl⟩ := Int.eq_ofNat_of_zero_le hy
  have hb : b < 2 ^ w := by exact_mod_cast h
  have hc : ((a : Int) * 2 ^ w) = ((a * 2 ^ w : Nat) : Int) := by push_cast; rfl
  rw [hc]
  unfold PySem.Builtin.bitAnd
  simp only [Int.natCast_nonneg, decide_true, Int.toNat_natCast]
  have : a * 2 ^ w &&& b = 0 := by
    refine Nat.eq_of_testBit_eq fun i => ?_
    rw [Nat.testBit_and, Nat.zero_testBit, Nat.testBit_mul_two_pow]
    by_cases hi : w ≤ i
    · rw [Nat.testBit_lt_two_pow (Nat.lt_of_lt_of_le hb (Nat.pow_le_pow_right (by with_reducible exact Nat.succ_pos _) hi)), Bool.and_false]
    · simp [hi]
  rw [this]; rfl
theorem bor_sh {x y : Int} {w : Nat} (hx : 0 ≤ x) (hy : 0 ≤ y) (h : y < 2 ^ w) : PySem.Builtin.bitOr (x * 2 ^ w) y = x * 2 ^ w + y := by
  rw [PyProof.Rows.bitOr_and, band_sh hx hy h]; omega
theorem bor_sh' {x y : Int} {w : Nat} (hx : 0 ≤ x) (hy : 0 ≤ y) (h : y < 2 ^ w) : PySem.Builtin.bitOr y (x * 2 ^ w) = x * 2 ^ w + y := by
  rw [PyProof.Rows.bitOr_comm, bor_sh hx hy h]

theorem binI_add {a b : Int} : binI .add a b = some (a + b) := rfl
theorem binI_sub {a b : Int} : binI .sub a b = some (a - b) := rfl
theorem binI_band {a b : Int} : binI .band a b = some (PySem.Builtin.bitAnd a b) := rfl
theorem binI_bor {a b : Int} : binI .bor a b = some (PySem.Builtin.bitOr a b) := rfl
theorem bin_int {op : BOp} {a b : Int} : bin op (.int a) (.int b) = (binI op a b).map fun i => .val (.int i) := by cases op <;> rfl
theorem bin_cat {xs ys : List Int} (h : xs.length + ys.length ≤ lenLim) : bin .add (vi xs) (vi ys) = some (.fresh ((xs ++ ys).map .int)) := by
  unfold bin
  dsimp only
  rw [if_pos (by simpa using h), List.map_append]
theorem bin_rep {n : Nat} {x : Int} (h : n ≤ lenLim) : bin .mul (.list [.int x]) (.int n) = some (.fresh ((List.replicate n x).map .int)) := by
  unfold bin
  dsimp only
  rw [if_pos ⟨by simp, by unfold lenLim at h; unfold lim; with_reducible exact absL (by assumption) (by decide), by simpa using h⟩]
  congr 2
  induction n with
  | zero => rfl
  | succ n ih =>
    simp only [Int.toNat_natCast] at ih ⊢
    rw [List.replicate_succ, List.flatten_cons, ih (by with_reducible exact Nat.le_of_succ_le (by assumption)), List.replicate_succ]; rfl
theorem bin_rep_neg {n : Int} {x : Int} (h : n ≤ 0) (hs : n.natAbs < lim) : bin .mul (.list [.int x]) (.int n) = some (.fresh []) := by
  unfold bin
  dsimp only
  rw [if_pos ⟨by simp, hs, by rw [show n.toNat = 0 from by omega]; exact Nat.zero_le _⟩, show n.toNat = 0 from by omega]
  rfl
theorem set_at {l : List Int} {k : Nat} {x : Int} (h : k < l.length) (hl : l.length ≤ lenLim) : setItem (l.map .int) (k : Int) (.int x) = some ((l.set k x).map .int) := by
  unfold setItem
  rw [if_pos ⟨by with_reducible exact Int.natCast_nonneg _, by simpa using h, by simpa using hl⟩, Int.toNat_natCast, List.map_set]
theorem binI_shr {a : Int} {n : Nat} : binI .shr a n = some (a / 2 ^ n) := by
  unfold binI
  dsimp only
  rw [if_pos (by with_reducible exact Int.natCast_nonneg _), Int.toNat_natCast, fdiv_pos (Int.le_of_lt (Int.pow_pos (by with_reducible decide)))]
theorem binI_shl {a : Int} {n : Nat} (h : n ≤ 100000) (ha : a.natAbs < lim) : binI .shl a n = some (a * 2 ^ n) := by
  unfold binI
  dsimp only
  rw [if_pos ⟨by with_reducible exact Int.natCast_nonneg _, by omega, ha⟩, Int.toNat_natCast]
theorem binI_mul {a b : Int} (ha : a.natAbs < lim) (hb : b.natAbs < lim) : binI .mul a b = some (a * b) := by
  unfold binI
  dsimp only
  rw [if_pos ⟨ha, hb⟩]
theorem binI_div {a b : Int} (h0 : 0 < b) (ha : a.natAbs < lim) (hb : b.natAbs < lim) : binI .div a b = some (a / b) := by
  unfold binI
  dsimp only
  rw [if_pos ⟨by omega, ha, hb⟩, fdiv_pos (by with_reducible exact Int.le_of_lt (by assumption))]
theorem binI_mod {a b : Int} (h0 : 0 < b) : binI .mod a b = some (a % b) := by
  unfold binI
  dsimp only
  rw [if_pos (by omega), Int.fmod_eq_emod_of_nonneg _ (by with_reducible exact Int.le_of_lt (by assumption))]

/-! rows of limbs -/
noncomputable def val (B : Int) : List Int → Int
  | [] => 0
  | x :: r => x + B * val B r
noncomputable def Dig (B : Int) (l : List Int) : Prop := ∀ x ∈ l, 0 ≤ x ∧ x < B
noncomputable def Nz (l : List Int) : Prop := l.getLast? ≠ some 0
theorem val_append (B : Int) : ∀ l r : List Int, val B (l ++ r) = val B l + B ^ l.length * val B r
  | [], r => by simp [val]
  | x :: l, r => by
    simp only [List.cons_append, val, val_append B l r, List.length_cons, Int.pow_succ]
    grind
theorem val_zeros (B : Int) : ∀ k : Nat, val B (List.replicate k 0) = 0
  | 0 => rfl
  | k + 1 => by simp [List.replicate_succ, val, val_zeros B k]
theorem Dig.nil {B : Int} : Dig B [] := fun _ h => by simp at h
theorem Dig.cons {B x : Int} {l : List Int} (h : 0 ≤ x ∧ x < B) (hl : Dig B l) : Dig B (x :: l) := fun y hy => by
  rcases List.mem_cons.mp hy with rfl | hy
  · exact h
  · exact hl y hy
theorem Dig.append {B : Int} {l r : List Int} (hl : Dig B l) (hr : Dig B r) : Dig B (l ++ r) := fun y hy => by
  rcases List.mem_append.mp hy with h | h
  · exact hl y h
  · exact hr y h
theorem Dig.sub {B : Int} {l r : List Int} (h : Dig B l) (hs : ∀ x ∈ r, x ∈ l) : Dig B r := fun x hx => h x (hs x hx)
theorem Dig.tail {B x : Int} {l : List Int} (h : Dig B (x :: l)) : Dig B l := fun y hy => h y (.tail _ hy)
theorem Dig.head {B x : Int} {l : List Int} (h : Dig B (x :: l)) : 0 ≤ x ∧ x < B := h x (.head _)
theorem val_nonneg {B : Int} (hB : 0 ≤ B) : ∀ {l : List Int}, Dig B l → 0 ≤ val B l
  | [], _ => Int.le_refl 0
  | x :: r, h => by
    have h1 := val_nonneg hB h.tail
    have h2 := h.head
    have h3 := Int.mul_nonneg hB h1
    simp only [val]; with_reducible exact Int.add_nonneg (And.left (by assumption)) (by assumption)
theorem pow_pos' {B : Int} (hB : 0 < B) (k : Nat) : 0 < B ^ k := Int.pow_pos hB
theorem val_lt {B : Int} (hB : 0 < B) : ∀ {l : List Int}, Dig B l → val B l < B ^ l.length
  | [], _ => by simp [val]
  | x :: r, h => by
    have h1 := val_lt hB h.tail
    have h2 := h.head
    have h3 : B * (val B r + 1) ≤ B * B ^ r.length := Int.mul_le_mul_of_nonneg_left (by with_reducible exact Int.add_one_le_of_lt (by assumption)) (by with_reducible exact Int.le_of_lt (by assumption))
    simp only [val, List.length_cons, Int.pow_succ]
    rw [Int.mul_add, Int.mul_one] at h3
    rw [Int.mul_comm (B ^ r.length) B]
    omega
theorem Nz.nil : Nz [] := by simp [Nz]
theorem Nz.tail {x : Int} {l : List Int} (h : Nz (x :: l)) : Nz l := by
  cases l with
  | nil => exact Nz.nil
  | cons y r => simpa [Nz, List.getLast?_cons_cons] using h
theorem pow_mono {B : Int} (hB : 0 < B) {i j : Nat} (h : i ≤ j) : B ^ i ≤ B ^ j := by
  obtain ⟨k, rfl⟩ := Nat.exists_eq_add_of_le h
  rw [Int.pow_add]
  have h1 := pow_pos' hB i
  have h2 := pow_pos' hB k
  have := Int.mul_le_mul_of_nonneg_left (show 1 ≤ B ^ k by omega) (show 0 ≤ B ^ i by with_reducible exact Int.le_of_lt (by assumption))
  omega
theorem val_ge {B : Int} (hB : 0 < B) : ∀ {l : List Int}, Dig B l → Nz l → l ≠ [] → B ^ (l.length - 1) ≤ val B l
  | [x], h, hz, _ => by
    have := h.head
    simp [Nz] at hz
    simp [val]; omega
  | x :: y :: r, h, hz, _ => by
    have h1 := val_ge hB h.tail hz.tail (by simp)
    have h2 := h.head
    have h3 : B * B ^ ((y :: r).length - 1) ≤ B * val B (y :: r) := Int.mul_le_mul_of_nonneg_left h1 (by with_reducible exact Int.le_of_lt (by assumption))
    rw [val]
    simp only [List.length_cons, Nat.add_sub_cancel, Int.pow_succ] at h3 ⊢
    rw [Int.mul_comm (B ^ r.length) B]
    omega
theorem val_inj {B : Int} (hB : 1 < B) : ∀ {l r : List Int}, Dig B l → Dig B r → Nz l → Nz r → val B l = val B r → l = r
  | [], [], _, _, _, _, _ => rfl
  | [], y :: r, _, h, _, hz, e => by
    have h1 := val_ge (by with_reducible exact zlo (by assumption)) h hz (by simp)
    have h2 := pow_pos' (show 0 < B by with_reducible exact zlo (by assumption)) ((y :: r).length - 1)
    rw [← e] at h1; simp only [val] at h1; with_reducible exact absurd (by assumption) (Int.not_lt.mpr (by assumption))
  | x :: l, [], h, _, hz, _, e => by
    have h1 := val_ge (by with_reducible exact zlo (by assumption)) h hz (by simp)
    have h2 := pow_pos' (show 0 < B by with_reducible exact zlo (by assumption)) ((x :: l).length - 1)
    rw [e] at h1; simp only [val] at h1; with_reducible exact absurd (by assumption) (Int.not_lt.mpr (by assumption))
  | x :: l, y :: r, h, k, hz, kz, e => by
    simp only [val] at e
    have hx := h.head
    have hy := k.head
    have h1 : x = y := by
      have e1 := congrArg (· % B) e
      simp only [Int.add_mul_emod_self_left] at e1
      rwa [Int.emod_eq_of_lt hx.1 hx.2, Int.emod_eq_of_lt hy.1 hy.2] at e1
    subst h1
    have h2 : val B l = val B r := Int.eq_of_mul_eq_mul_left (show B ≠ 0 by omega) (by omega)
    rw [val_inj hB h.tail k.tail hz.tail kz.tail h2]

structure Num (B n : Int) (l : List Int) : Prop where
  dig : Dig B l
  nz : Nz l
  val : val B l = n
theorem Num.inj {B n : Int} {l r : List Int} (hB : 1 < B) (h : Num B n l) (k : Num B n r) : l = r := val_inj hB h.dig k.dig h.nz k.nz (h.val.trans k.val.symm)
theorem Num.nonneg {B n : Int} {l : List Int} (hB : 0 < B) (h : Num B n l) : 0 ≤ n := h.val ▸ val_nonneg (by with_reducible exact Int.le_of_lt (by assumption)) h.dig
theorem Num.len {B n : Int} {l : List Int} {k : Nat} (hB : 1 < B) (h : Num B n l) (hk : n < B ^ k) : l.length ≤ k := by
  by_cases hl : l = []
  · subst hl; simp
  · have h1 := val_ge (by with_reducible exact zlo (by assumption)) h.dig h.nz hl
    rw [h.val] at h1
    have h2 : B ^ (l.length - 1) < B ^ k := by with_reducible exact Int.lt_of_le_of_lt (by assumption) (by assumption)
    have h3 : l.length - 1 < k := by
      rcases Nat.lt_or_ge (l.length - 1) k with q | q
      · exact q
      · have := pow_mono (show 0 < B by with_reducible exact zlo (by assumption)) q
        with_reducible exact absurd (by assumption) (Int.not_lt.mpr (by assumption))
    omega
theorem Num.zero {B : Int} : Num B 0 [] := ⟨.nil, .nil, rfl⟩
theorem Num.nil_iff {B n : Int} {l : List Int} (hB : 0 < B) (h : Num B n l) : l = [] ↔ n = 0 := by
  constructor
  · intro e; rw [← h.val, e]; rfl
  · intro e
    by_cases hl : l = []
    · exact hl
    · have h1 := val_ge hB h.dig h.nz hl
      have h2 := pow_pos' hB (l.length - 1)
      rw [h.val] at h1; omega
end Mine
end PEv

section PSp1
namespace Mine

theorem TT_tab {X : Option FDef} {k : Nat} {fd : FDef} (hk : k ≠ 50) (h : tab.lookup k = some fd) : TT X k = some fd := by unfold TT; rw [if_neg hk]; exact h

theorem cut_take {l : List Int} {e : Nat} (h : e ≤ l.length) : cutI (l.map V.int) none (some (e : Int)) = (l.take e).map V.int := by
  unfold cutI
  simp only [Option.elim, List.length_map, List.drop_zero, Nat.sub_zero, List.map_take]
  rw [PySem.clipAt_nat]
  congr 1; omega

theorem normal_loop {C : CallF} {a : List Int} (ha : a.length ≤ lenLim) : ∃ e : Nat, e ≤ a.length ∧ xS C l_normal_1 [.val (vi a), .val (.int a.length)] = some (.next, [.val (vi a), .val (.int e)]) ∧ (∀ x ∈ a.drop e, x = 0) ∧ Nz (a.take e) := by
  rw [l_normal_1, xS_wh]
  obtain ⟨f', h1, e, he, rfl, h2, h3⟩ := while_inv (t := evalB C l_normal_1t) (b := xSs C l_normal_1b) (fun n f => n ≤ a.length ∧ f = [.val (vi a), .val (.int n)] ∧ ∀ x ∈ a.drop n, x = 0) (fun f => ∃ e : Nat, e ≤ a.length ∧ f = [.val (vi a), .val (.int e)] ∧ (∀ x ∈ a.drop e, x = 0) ∧ Nz (a.take e)) (fun n f h => by
    obtain ⟨hn, rfl, hz⟩ := h
    unfold l_normal_1t l_normal_1b
    rcases n with _ | n
    · have h0 : ¬ (0 : Int) < ((0 : Nat) : Int) := by with_reducible decide
      left
      refine ⟨_, by (simp! [h0] <;> rfl), 0, by with_reducible assumption, rfl, hz, by simp [Nz]⟩
    · have h0 : (0 : Int) < ((n + 1 : Nat) : Int) := by omega
      have hlt : n < a.length := by omega
      have hi : item (a.map V.int) (((n + 1 : Nat) : Int) - 1) = some (.int a[n]) := item_pos (by with_reducible exact Int.le_sub_one_of_lt (by assumption)) (by rw [show (((n + 1 : Nat) : Int) - 1).toNat = n from by omega]; exact List.getElem?_eq_getElem hlt) ha
      by_cases hx : a[n] = 0
      · right
        refine ⟨_, _, n, by (simp! [h0, hi, hx] <;> rfl), .inl (by (simp! [] <;> rfl)), by omega, by with_reducible exact Nat.le_of_lt (by assumption), ?_, ?_⟩
        · rw [show ((n + 1 : Nat) : Int) - 1 = n from by omega]
        · intro x h
          rw [List.drop_eq_getElem_cons hlt] at h
          rcases List.mem_cons.mp h with rfl | h
          · exact hx
          · exact hz x h
      · left
        refine ⟨_, by (simp! [h0, hi, hx] <;> rfl), n + 1, hn, rfl, hz, ?_⟩
        unfold Nz
        rw [List.getLast?_take]
        simp [List.getElem?_eq_getElem hlt, hx]) a.length _ ⟨Nat.le_refl _, rfl, by simp⟩
  exact ⟨e, he, h1, h2, h3⟩

theorem normal_spec {X : Option FDef} {d : Nat} {a : List Int} {B : Int} (hd : 1 ≤ d) (ha : a.length ≤ lenLim) (hg : Dig B a) : ∃ c, callI (TT X) d (.fn 0) none [vi a] = some (vi c, []) ∧ Num B (val B a) c ∧ c.length ≤ a.length := by
  obtain ⟨d, rfl⟩ := Nat.exists_eq_add_of_le' hd
  obtain ⟨e, he, h1, h2, h3⟩ := normal_loop (C := callI (TT X) d) ha
  refine ⟨a.take e, call_go (fd := d_normal) (TT_tab (by decide) rfl) rfl rfl (fl := .ret (vi (a.take e))) ?_ rfl, ⟨hg.sub fun x hx => List.mem_of_mem_take hx, h3, ?_⟩, by simp; omega⟩
  · exact ⟨_, by show xSs _ b_normal _ = _; unfold b_normal; (simp! [ha, h1, cut_take he] <;> rfl)⟩
  · have hs : a = a.take e ++ List.replicate (a.length - e) 0 := by
      conv => lhs; rw [← List.take_append_drop e a]
      congr 1
      exact List.eq_replicate_iff.mpr ⟨by simp, h2⟩
    conv => rhs; rw [hs, val_append, val_zeros, Int.mul_zero, Int.add_zero]
end Mine
end PSp1

section PSp2
namespace Mine

noncomputable def W (w : Nat) : Prop := 1 ≤ w ∧ w ≤ 16
theorem W.two {w : Nat} (h : W w) : (2 : Int) ≤ 2 ^ w := by
  have := pow_mono (show (0 : Int) < 2 by with_reducible decide) h.1
  simpa using this
theorem W.top {w : Nat} (h : W w) : (2 : Int) ^ w ≤ 65536 := pow_mono (show (0 : Int) < 2 by with_reducible decide) h.2
theorem dm (a b : Int) : a % b + b * (a / b) = a := Int.emod_add_mul_ediv a b
theorem md {a b : Int} (h : 0 < b) : 0 ≤ a % b ∧ a % b < b := ⟨Int.emod_nonneg a (by omega), Int.emod_lt_of_pos a h⟩
theorem div_nn {a b : Int} (h : 0 < b) (ha : 0 ≤ a) : 0 ≤ a / b := Int.ediv_nonneg ha (by with_reducible exact Int.le_of_lt (by assumption))
theorem div_lt {a b c : Int} (h : 0 < b) (ha : a < c * b) : a / b < c := Int.ediv_lt_of_lt_mul h ha
theorem val_take {B : Int} {l : List Int} {k : Nat} (h : k < l.length) : val B (l.take (k + 1)) = val B (l.take k) + B ^ k * l[k] := by
  rw [List.take_succ_eq_append_getElem h, val_append]
  simp only [val, List.length_take, Int.mul_zero, Int.add_zero]
  rw [Nat.min_eq_left (by with_reducible exact Nat.le_of_lt (by assumption))]
theorem val_split {B : Int} (l : List Int) (k : Nat) (h : k ≤ l.length) : val B l = val B (l.take k) + B ^ k * val B (l.drop k) := by
  conv => lhs; rw [← List.take_append_drop k l, val_append]
  rw [List.length_take, Nat.min_eq_left h]
theorem val_at {B : Int} {l : List Int} {k : Nat} (h : k < l.length) : val B (l.drop k) = l[k] + B * val B (l.drop (k + 1)) := by
  rw [List.drop_eq_getElem_cons h]; rfl
theorem val_push {B c : Int} {l : List Int} : val B (l ++ [c]) = val B l + B ^ l.length * c := by
  rw [val_append]; simp [val]
theorem Dig.push {B c : Int} {l : List Int} (h : Dig B l) (hc : 0 ≤ c ∧ c < B) : Dig B (l ++ [c]) := h.append (.cons hc .nil)
theorem Dig.get {B : Int} {l : List Int} (h : Dig B l) {k : Nat} (hk : k < l.length) : 0 ≤ l[k] ∧ l[k] < B := h _ (List.getElem_mem hk)
theorem nz_of {B : Int} (hB : 0 < B) {l : List Int} (h : Dig B l) (hv : l ≠ [] → B ^ (l.length - 1) ≤ val B l) : Nz l := by
  intro e
  have hne : l ≠ [] := by intro q; subst q; simp at e
  have h1 := hv hne
  have hs : l = l.dropLast ++ [0] := by
    obtain ⟨ys, rfl⟩ := List.getLast?_eq_some_iff.mp e
    simp
  rw [hs, val_push] at h1
  have h2 := val_lt hB (h.sub (r := l.dropLast) fun x hx => List.dropLast_subset _ hx)
  simp at h1 h2
  with_reducible exact absurd (by assumption) (Int.not_lt.mpr (by assumption))
theorem Nz.push {l : List Int} {c : Int} (h : c ≠ 0) : Nz (l ++ [c]) := by simp [Nz, h]
theorem item_at {l : List Int} {k : Nat} (h : k < l.length) (hl : l.length ≤ lenLim) : item (l.map .int) (k : Int) = some (.int l[k]) :=
  item_pos (by with_reducible exact Int.natCast_nonneg _) (by simp [h]) hl
theorem lt_cmp {B : Int} (hB : 0 < B) {p q t : List Int} {x y : Int} (hp : Dig B p) (hq : Dig B q) (hl : p.length = q.length) (h : x < y) : val B (p ++ x :: t) < val B (q ++ y :: t) := by
  have h1 := val_lt hB hp
  have h2 := val_nonneg (by with_reducible exact Int.le_of_lt (by assumption)) hq
  have h3 := pow_pos' hB p.length
  have h4 : B ^ p.length * (x + 1) ≤ B ^ p.length * y := Int.mul_le_mul_of_nonneg_left (by with_reducible exact Int.add_one_le_of_lt (by assumption)) (by with_reducible exact Int.le_of_lt (by assumption))
  rw [val_append, val_append, ← hl]
  simp only [val]
  rw [Int.mul_add, Int.mul_add]
  rw [Int.mul_add, Int.mul_one] at h4
  omega
theorem len_lt {B : Int} (hB : 1 < B) {n m : Int} {a b : List Int} (ha : Num B n a) (hb : Num B m b) (h : a.length < b.length) : n < m := by
  have h1 := val_lt (by with_reducible exact zlo (by assumption)) ha.dig
  have h2 := val_ge (by with_reducible exact zlo (by assumption)) hb.dig hb.nz (by intro e; subst e; simp at h)
  have h3 := pow_mono (show 0 < B by with_reducible exact zlo (by assumption)) (show a.length ≤ b.length - 1 by omega)
  rw [ha.val] at h1
  rw [hb.val] at h2
  omega

/-! compare -/
noncomputable def cmpR (n m : Int) : Int := if n < m then -1 else if n = m then 0 else 1

theorem compare_spec {X : Option FDef} {d : Nat} {a b : List Int} {B n m : Int} (hd : 1 ≤ d) (hB : 1 < B) (ha : Num B n a) (hb : Num B m b) (la : a.length ≤ lenLim) (lb : b.length ≤ lenLim) :
    callI (TT X) d (.fn 2) none [vi a, vi b] = some (.int (cmpR n m), []) := by
  obtain ⟨d, rfl⟩ := Nat.exists_eq_add_of_le' hd
  by_cases hl : a.length = b.length
  · -- equal lengths
    have hne : ¬ ((a.length : Int) ≠ b.length) := by omega
    have hne' : decide ((a.length : Int) = b.length) = true := by simp [hl]
    have L : (∃ f', xS (callI (TT X) d) l_compare_1 [.val (vi a), .val (vi b), .unset] = some (.next, f') ∧ n = m) ∨ ∃ v f', xS (callI (TT X) d) l_compare_1 [.val (vi a), .val (vi b), .unset] = some (.ret v, f') ∧ v = .int (cmpR n m) := by
      have hf := xS_forR (C := callI (TT X) d) (kind := 3) (i := 2) (lo := .bin .sub (.lenv 0) (.int 1)) (hi := .neg (.int 1)) (s := l_compare_1b) (fr := [.val (vi a), .val (vi b), .unset]) (a := (a.length : Int) - 1) (b := -1) (by (simp! [la] <;> rfl)) (by (simp! [] <;> rfl)) (by unfold lenLim at la; unfold lim; with_reducible exact absL1 (by assumption) (by decide)) (by decide)
      rw [l_compare_1, hf]
      refine (for_dn_ret (body := stepR (callI (TT X) d) 2 l_compare_1b) (fun k f => (∃ s, setOk (some s) = true ∧ f = [.val (vi a), .val (vi b), s]) ∧ ∀ j : Nat, k < j → a.drop j = b.drop j) (fun v => v = .int (cmpR n m)) (lo := (a.length : Int) - 1) (hi := -1) (by omega) ?_ [.val (vi a), .val (vi b), .unset] ⟨⟨_, rfl, rfl⟩, ?_⟩).imp (fun ⟨f', e, _, h⟩ => ⟨f', e, ?_⟩) (fun h => h)
      · intro k f h1 h2 ⟨⟨s, hs, hf⟩, hj⟩
        subst hf
        obtain ⟨k, rfl⟩ := Int.eq_ofNat_of_zero_le (show 0 ≤ k by omega)
        have hka : k < a.length := by omega
        have hkb : k < b.length := by with_reducible exact Nat.lt_of_lt_of_eq (by assumption) (by assumption)
        have ia := item_at hka la
        have ib := item_at hkb lb
        have ht := hj (k + 1) (by omega)
        have ea : a = a.take k ++ a[k] :: a.drop (k + 1) := by rw [← List.drop_eq_getElem_cons hka, List.take_append_drop]
        have eb : b = b.take k ++ b[k] :: a.drop (k + 1) := by rw [ht, ← List.drop_eq_getElem_cons hkb, List.take_append_drop]
        have dp : Dig B (a.take k) := ha.dig.sub fun x hx => List.mem_of_mem_take hx
        have dq : Dig B (b.take k) := hb.dig.sub fun x hx => List.mem_of_mem_take hx
        have dl : (a.take k).length = (b.take k).length := by simp; omega
        have va := ha.val
        have vb := hb.val
        rw [ea] at va
        rw [eb] at vb
        by_cases hx : a[k] = b[k]
        · left
          refine ⟨_, by unfold stepR l_compare_1b; (simp! [hs, ia, ib, hx] <;> rfl), ⟨_, rfl, rfl⟩, fun j h => ?_⟩
          by_cases hjk : j = k
          · subst hjk
            rw [List.drop_eq_getElem_cons hka, List.drop_eq_getElem_cons hkb, hx, ht]
          · exact hj j (by omega)
        · right
          by_cases hlt : a[k] < b[k]
          · refine ⟨_, _, by unfold stepR l_compare_1b; (simp! [hs, ia, ib, hx, hlt] <;> rfl), ?_⟩
            have := lt_cmp (by with_reducible exact zlo (by assumption)) dp dq dl hlt (t := a.drop (k + 1))
            rw [va, vb] at this
            unfold cmpR
            rw [if_pos this]
          · refine ⟨_, _, by unfold stepR l_compare_1b; (simp! [hs, ia, ib, hx, hlt] <;> rfl), ?_⟩
            have := lt_cmp (by with_reducible exact zlo (by assumption)) dq dp dl.symm (show b[k] < a[k] by omega) (t := a.drop (k + 1))
            rw [va, vb] at this
            unfold cmpR
            rw [if_neg (by omega), if_neg (by omega)]
      · intro j hj
        rw [List.drop_eq_nil_of_le (by omega), List.drop_eq_nil_of_le (by omega)]
      · have := h 0 (by with_reducible decide)
        simp at this
        subst this
        exact ha.val.symm.trans hb.val
    rcases L with ⟨f', e, hnm⟩ | ⟨v, f', e, rfl⟩
    · refine call_go (fd := d_compare) (TT_tab (by decide) rfl) rfl rfl (fl := .ret (.int (cmpR n m))) ⟨_, by show xSs _ b_compare _ = _; unfold b_compare; (simp! [la, lb, hne', hl, e, cmpR, hnm, Int.lt_irrefl] <;> rfl)⟩ rfl
    · refine call_go (fd := d_compare) (TT_tab (by decide) rfl) rfl rfl (fl := .ret (.int (cmpR n m))) ⟨_, by show xSs _ b_compare _ = _; unfold b_compare; (simp! [la, lb, hne', hl, e] <;> rfl)⟩ rfl
  · have hne' : ¬ ((a.length : Int) = b.length) := by omega
    by_cases hlt : a.length < b.length
    · have := len_lt hB ha hb hlt
      have hi : (a.length : Int) < b.length := by with_reducible exact Int.ofNat_lt.mpr (by assumption)
      refine call_go (fd := d_compare) (TT_tab (by decide) rfl) rfl rfl (fl := .ret (.int (cmpR n m))) ⟨_, by show xSs _ b_compare _ = _; unfold b_compare; (simp! [la, lb, hne', hi, cmpR, this] <;> rfl)⟩ rfl
    · have := len_lt hB hb ha (by omega)
      have hi : ¬ (a.length : Int) < b.length := by omega
      have h1 : ¬ n < m := by omega
      have h2 : ¬ n = m := by omega
      refine call_go (fd := d_compare) (TT_tab (by decide) rfl) rfl rfl (fl := .ret (.int (cmpR n m))) ⟨_, by show xSs _ b_compare _ = _; unfold b_compare; (simp! [la, lb, hne', hi, cmpR, h1, h2] <;> rfl)⟩ rfl
end Mine
end PSp2

section PSp3
namespace Mine

theorem msk {w : Nat} (hw : W w) : binI .shl 1 w = some (2 ^ w) := by rw [binI_shl (by have := hw.2; with_reducible exact le_dn (by assumption) (by decide)) (by decide), Int.one_mul]
theorem carry_step {B v t : Int} {k : Nat} : v + B ^ k * (t % B) + B ^ (k + 1) * (t / B) = v + B ^ k * t := by
  have h := dm t B
  rw [Int.pow_succ]
  generalize B ^ k = P at *
  generalize t % B = r at *
  generalize t / B = q at *
  subst h
  grind
theorem Dig.take {B : Int} {l : List Int} (h : Dig B l) (k : Nat) : Dig B (l.take k) := h.sub fun x hx => List.mem_of_mem_take hx
theorem Dig.drop {B : Int} {l : List Int} (h : Dig B l) (k : Nat) : Dig B (l.drop k) := h.sub fun x hx => List.mem_of_mem_drop hx
theorem push_map (f : List Int) (c : Int) : f.map V.int ++ [V.int c] = (f ++ [c]).map V.int := by simp

/-! add -/
theorem add_l2 {C : CallF} {w : Nat} {a b : List Int} (hw : W w) (ha : Dig (2 ^ w) a) (hb : Dig (2 ^ w) b) (la : a.length ≤ lenLim) (lb : b.length ≤ a.length) :
    ∃ s f c, xS C l_add_2 [.val (vi a), .val (vi b), .val (.int w), .unset, .own [], .val (.int 0), .val (.int (2 ^ w - 1))] = some (.next, [.val (vi a), .val (vi b), .val (.int w), s, .own (f.map .int), .val (.int c), .val (.int (2 ^ w - 1))]) ∧
      setOk (some s) = true ∧ f.length = b.length ∧ Dig (2 ^ w) f ∧ val (2 ^ w) f + (2 ^ w) ^ b.length * c = val (2 ^ w) (a.take b.length) + val (2 ^ w) b ∧ 0 ≤ c ∧ c ≤ 1 := by
  have hB := hw.two
  generalize hBB : (2 : Int) ^ w = B at *
  have lb' : b.length ≤ lenLim := by with_reducible exact Nat.le_trans (by assumption) (by assumption)
  have hf := xS_forR (C := C) (kind := 1) (i := 3) (lo := .int 0) (hi := .lenv 1) (s := l_add_2b) (fr := [.val (vi a), .val (vi b), .val (.int w), .unset, .own [], .val (.int 0), .val (.int (B - 1))]) (a := 0) (b := b.length) (by (simp! [] <;> rfl)) (by (simp! [lb'] <;> rfl)) (by decide) (by unfold lenLim at lb'; unfold lim; with_reducible exact absL (by assumption) (by decide))
  rw [l_add_2, hf]
  obtain ⟨f', e, hF⟩ := for_up (body := stepR C 3 l_add_2b) (fun k fr => ∀ G : Prop, (∀ s f c, fr = [.val (vi a), .val (vi b), .val (.int w), s, .own (f.map .int), .val (.int c), .val (.int (B - 1))] → setOk (some s) = true → (f.length : Int) = k → Dig B f → val B f + B ^ f.length * c = val B (a.take f.length) + val B (b.take f.length) → 0 ≤ c → c ≤ 1 → G) → G) (lo := 0) (hi := b.length) (by with_reducible exact Int.natCast_nonneg _) (by
    intro k fr h1 h2 hI
    refine hI _ fun s f c e3 hs hk hd hv c0 c1 => ?_
    subst e3
    subst hk
    have ka : f.length < a.length := by omega
    have kb : f.length < b.length := by with_reducible exact Int.ofNat_lt.mp (by assumption)
    have ia := item_at ka la
    have ib := item_at kb lb'
    have lf : f.length ≤ lenLim := by with_reducible exact Nat.le_trans (Nat.le_of_lt (by assumption)) (by assumption)
    have xa := ha.get ka
    have xb := hb.get kb
    have hq : (c + (a[f.length] + b[f.length])) / B ≤ 1 := by
      have := div_lt (a := c + (a[f.length] + b[f.length])) (b := B) (c := 2) (by with_reducible exact zlt_tr (by assumption) (by decide)) (by omega)
      omega
    have hq0 := div_nn (a := c + (a[f.length] + b[f.length])) (b := B) (by with_reducible exact zlt_tr (by assumption) (by decide)) (by with_reducible exact Int.add_nonneg (by assumption) (Int.add_nonneg (And.left (by assumption)) (And.left (by assumption))))
    have hm := md (a := c + (a[f.length] + b[f.length])) (b := B) (by with_reducible exact zlt_tr (by assumption) (by decide))
    refine ⟨_, by unfold stepR l_add_2b; subst hBB; (simp! [hs, ia, ib, lf, band_mask] <;> rfl), fun _ KK => KK (.val (.int f.length)) (f ++ [(c + (a[f.length] + b[f.length])) % B]) ((c + (a[f.length] + b[f.length])) / B) (by rw [push_map, ← hBB]) rfl (by simp) (hd.push hm) ?_ hq0 hq⟩
    rw [val_push, List.length_append, List.length_singleton, carry_step, val_take ka, val_take kb]
    generalize B ^ f.length = P at *
    grind) _ (fun _ KK => KK .unset ([]) 0 rfl rfl rfl .nil (by simp [val]) (by with_reducible decide) (by with_reducible decide))
  refine hF _ fun s f c e3 h1 h2 h3 h4 w0 w1 => ?_
  have h5 := And.intro w0 (w1)
  subst e3
  have hl : f.length = b.length := by omega
  rw [hl, List.take_length] at h4
  exact ⟨s, f, c, e, h1, hl, h3, h4, h5.1, h5.2⟩
end Mine
end PSp3

section PSp4
namespace Mine

theorem add_l1 {C : CallF} {w : Nat} {a b f0 : List Int} {c0 : Int} {s0 : Slot} (hw : W w) (ha : Dig (2 ^ w) a) (la : a.length ≤ lenLim) (lb : b.length ≤ a.length) (hs0 : setOk (some s0) = true) (hf0 : f0.length = b.length) (hd0 : Dig (2 ^ w) f0)
    (hv0 : val (2 ^ w) f0 + (2 ^ w) ^ b.length * c0 = val (2 ^ w) (a.take b.length) + val (2 ^ w) b) (h00 : 0 ≤ c0) (h01 : c0 ≤ 1) :
    ∃ s f c, xS C l_add_1 [.val (vi a), .val (vi b), .val (.int w), s0, .own (f0.map .int), .val (.int c0), .val (.int (2 ^ w - 1))] = some (.next, [.val (vi a), .val (vi b), .val (.int w), s, .own (f.map .int), .val (.int c), .val (.int (2 ^ w - 1))]) ∧
      f.length = a.length ∧ Dig (2 ^ w) f ∧ val (2 ^ w) f + (2 ^ w) ^ a.length * c = val (2 ^ w) a + val (2 ^ w) b ∧ 0 ≤ c ∧ c ≤ 1 := by
  have hB := hw.two
  generalize hBB : (2 : Int) ^ w = B at *
  have lb' : b.length ≤ lenLim := by with_reducible exact Nat.le_trans (by assumption) (by assumption)
  have hf := xS_forR (C := C) (kind := 2) (i := 3) (lo := .lenv 1) (hi := .lenv 0) (s := l_add_1b) (fr := [.val (vi a), .val (vi b), .val (.int w), s0, .own (f0.map .int), .val (.int c0), .val (.int (B - 1))]) (a := b.length) (b := a.length) (by (simp! [lb'] <;> rfl)) (by (simp! [la] <;> rfl)) (by unfold lenLim at lb'; unfold lim; with_reducible exact absL (by assumption) (by decide)) (by unfold lenLim at la; unfold lim; with_reducible exact absL (by assumption) (by decide))
  rw [l_add_1, hf]
  obtain ⟨f', e, hF⟩ := for_up (body := stepR C 3 l_add_1b) (fun k fr => ∀ G : Prop, (∀ s f c, fr = [.val (vi a), .val (vi b), .val (.int w), s, .own (f.map .int), .val (.int c), .val (.int (B - 1))] → setOk (some s) = true → (f.length : Int) = k → Dig B f → val B f + B ^ f.length * c = val B (a.take f.length) + val B b → 0 ≤ c → c ≤ 1 → G) → G) (lo := b.length) (hi := a.length) (by with_reducible exact Int.ofNat_le.mpr (by assumption)) (by
    intro k fr h1 h2 hI
    refine hI _ fun s f c e3 hs hk hd hv c0 c1 => ?_
    subst e3
    subst hk
    have ka : f.length < a.length := by with_reducible exact Int.ofNat_lt.mp (by assumption)
    have ia := item_at ka la
    have lf : f.length ≤ lenLim := by with_reducible exact Nat.le_trans (Nat.le_of_lt (by assumption)) (by assumption)
    have xa := ha.get ka
    have hq : (c + a[f.length]) / B ≤ 1 := by
      have := div_lt (a := c + a[f.length]) (b := B) (c := 2) (by with_reducible exact zlt_tr (by assumption) (by decide)) (by omega)
      omega
    have hq0 := div_nn (a := c + a[f.length]) (b := B) (by with_reducible exact zlt_tr (by assumption) (by decide)) (by with_reducible exact Int.add_nonneg (by assumption) (And.left (by assumption)))
    have hm := md (a := c + a[f.length]) (b := B) (by with_reducible exact zlt_tr (by assumption) (by decide))
    refine ⟨_, by unfold stepR l_add_1b; subst hBB; (simp! [hs, ia, lf, band_mask] <;> rfl), fun _ KK => KK (.val (.int f.length)) (f ++ [(c + a[f.length]) % B]) ((c + a[f.length]) / B) (by rw [push_map, ← hBB]) rfl (by simp) (hd.push hm) ?_ hq0 hq⟩
    rw [val_push, List.length_append, List.length_singleton, carry_step, val_take ka]
    generalize B ^ f.length = P at *
    grind) _ (fun _ KK => KK s0 f0 c0 rfl hs0 (by omega) hd0 (by rw [hf0]; exact hv0) h00 h01)
  refine hF _ fun s f c e3 h1 h2 h3 h4 w0 w1 => ?_
  have h5 := And.intro w0 (w1)
  subst e3
  have hl : f.length = a.length := by omega
  rw [hl, List.take_length] at h4
  exact ⟨s, f, c, e, hl, h3, h4, h5.1, h5.2⟩

theorem add_ord {C : CallF} {w : Nat} {a b : List Int} {n m : Int} (hw : W w) (ha : Num (2 ^ w) n a) (hb : Num (2 ^ w) m b) (la : a.length < lenLim) (lb : b.length ≤ a.length) :
    ∃ c fr, xSs C (.cons (.asgS [4, 5, 6] (.cons (.list .nil) (.cons (.int 0) (.cons (.bin .sub (.bin .shl (.int 1) (.var 2)) (.int 1)) .nil))))
  (.cons l_add_2 (.cons l_add_1 (.cons (.ite (.cmp .gt (.var 5) (.int 0)) (.cons (.app 4 (.var 5)) .nil) .nil) (.cons (.ret (.var 4)) .nil))))) [.val (vi a), .val (vi b), .val (.int w), .unset, .unset, .unset, .unset] = some (.ret (vi c), fr) ∧ Num (2 ^ w) (n + m) c := by
  have hB := hw.two
  obtain ⟨s, f, c, e1, hs, hl, hd, hv, h0, h1⟩ := add_l2 (C := C) hw ha.dig hb.dig (by with_reducible exact Nat.le_of_lt (by assumption)) lb
  obtain ⟨s', g, c', e2, gl, gd, gv, g0, g1⟩ := add_l1 (C := C) hw ha.dig (by with_reducible exact Nat.le_of_lt (by assumption)) lb hs hl hd hv h0 h1
  rw [ha.val, hb.val] at gv
  have lg : g.length ≤ lenLim := by with_reducible exact ex1 (by assumption) (Nat.le_of_lt (by assumption))
  have m0 := hb.nonneg (by with_reducible exact zlt_tr (by assumption) (by decide))
  by_cases hc : c' = 0
  · subst hc
    refine ⟨g, _, by (simp! [msk hw, e1, e2, Int.lt_irrefl, List.reverse_cons] <;> rfl), gd, nz_of (by with_reducible exact zlt_tr (by assumption) (by decide)) gd fun hne => ?_, by rw [← gv]; omega⟩
    have hne' : a ≠ [] := by intro e; subst e; simp at gl; exact hne gl
    have := val_ge (by with_reducible exact zlt_tr (by assumption) (by decide)) ha.dig ha.nz hne'
    rw [ha.val] at this
    rw [gl]; omega
  · have hp : 0 < c' := by omega
    refine ⟨g ++ [c'], _, by (simp! [msk hw, e1, e2, hp, lg, push_map] <;> rfl), gd.push ⟨by with_reducible assumption, by omega⟩, Nz.push hc, by rw [val_push, gl, gv]⟩
theorem add_spec {X : Option FDef} {d w : Nat} {a b : List Int} {n m : Int} (hd : 1 ≤ d) (hw : W w) (ha : Num (2 ^ w) n a) (hb : Num (2 ^ w) m b) (la : a.length < lenLim) (lb : b.length < lenLim) :
    ∃ c, callI (TT X) d (.fn 3) none [vi a, vi b, .int w] = some (vi c, []) ∧ Num (2 ^ w) (n + m) c := by
  obtain ⟨d, rfl⟩ := Nat.exists_eq_add_of_le' hd
  have la' : a.length ≤ lenLim := by with_reducible exact Nat.le_of_lt (by assumption)
  have lb' : b.length ≤ lenLim := by with_reducible exact Nat.le_of_lt (by assumption)
  by_cases h : a.length < b.length
  · have hi : (a.length : Int) < b.length := by with_reducible exact Int.ofNat_lt.mpr (by assumption)
    obtain ⟨c, fr, e, hc⟩ := add_ord (C := callI (TT X) d) hw hb ha lb (by with_reducible exact Nat.le_of_lt (by assumption))
    exact ⟨c, call_go (fd := d_add) (TT_tab (by decide) rfl) rfl rfl (fl := .ret (vi c)) ⟨fr, by show xSs _ b_add _ = _; rw [← e]; unfold b_add; rw [xSs]; (simp! [la', lb', hi] <;> rfl)⟩ rfl, by rw [Int.add_comm]; exact hc⟩
  · have hi : ¬ (a.length : Int) < b.length := by omega
    obtain ⟨c, fr, e, hc⟩ := add_ord (C := callI (TT X) d) hw ha hb la (by with_reducible exact Nat.not_lt.mp (by assumption))
    exact ⟨c, call_go (fd := d_add) (TT_tab (by decide) rfl) rfl rfl (fl := .ret (vi c)) ⟨fr, by show xSs _ b_add _ = _; rw [← e]; unfold b_add; rw [xSs]; (simp! [la', lb', hi] <;> rfl)⟩ rfl, hc⟩

/-! mul_limb -/
theorem mul_limb_loop {C : CallF} {w : Nat} {a : List Int} {m : Int} (hw : W w) (ha : Dig (2 ^ w) a) (la : a.length ≤ lenLim) (h0 : 0 < m) (hm : m < 2 ^ w) :
    ∃ s f c, xS C l_mul_limb_1 [.val (vi a), .val (.int m), .val (.int w), .unset, .own [], .val (.int 0), .val (.int (2 ^ w - 1))] = some (.next, [.val (vi a), .val (.int m), .val (.int w), s, .own (f.map .int), .val (.int c), .val (.int (2 ^ w - 1))]) ∧
      f.length = a.length ∧ Dig (2 ^ w) f ∧ val (2 ^ w) f + (2 ^ w) ^ a.length * c = val (2 ^ w) a * m ∧ 0 ≤ c ∧ c < m := by
  have hB := hw.two
  have hT := hw.top
  generalize hBB : (2 : Int) ^ w = B at *
  have hf := xS_forL (C := C) (i := 3) (e := .var 0) (s := l_mul_limb_1b) (fr := [.val (vi a), .val (.int m), .val (.int w), .unset, .own [], .val (.int 0), .val (.int (B - 1))]) (vs := a.map .int) (by (simp! [] <;> rfl)) (by simpa using la)
  rw [l_mul_limb_1, hf]
  obtain ⟨f', e, hF⟩ := for_ints (body := stepR C 3 l_mul_limb_1b) (fun r fr => ∀ G : Prop, (∀ s p f c, fr = [.val (vi a), .val (.int m), .val (.int w), s, .own (f.map .int), .val (.int c), .val (.int (B - 1))] → setOk (some s) = true → a = p ++ r → f.length = p.length → Dig B f → val B f + B ^ p.length * c = val B p * m → 0 ≤ c → c < m → G) → G) (by
    intro x r fr hI
    refine hI _ fun s p f c e4 hs e6 hl hd hv c0 c1 => ?_
    subst e4
    subst e6
    have lf : f.length ≤ lenLim := by simp at la; omega
    have hx := ha x (by simp)
    have hmul := binI_mul (a := x) (b := m) (sm_of hx.1 (by with_reducible exact s61 (And.right (by assumption)) (by assumption))) (sm_of (by with_reducible exact Int.le_of_lt (by assumption)) (by with_reducible exact s61 (by assumption) (by assumption)))
    have hm' := md (a := c + x * m) (b := B) (by with_reducible exact Int.lt_trans (by assumption) (by assumption))
    have hxm : 0 ≤ x * m := Int.mul_nonneg hx.1 (by with_reducible exact Int.le_of_lt (by assumption))
    have hxB : x * m ≤ (B - 1) * m := Int.mul_le_mul_of_nonneg_right (by with_reducible exact Int.le_sub_one_of_lt (And.right (by assumption))) (by with_reducible exact Int.le_of_lt (by assumption))
    have hq : (c + x * m) / B < m := div_lt (by with_reducible exact Int.lt_trans (by assumption) (by assumption)) (by rw [Int.sub_mul, Int.one_mul, Int.mul_comm B m] at hxB; omega)
    have hq0 := div_nn (a := c + x * m) (b := B) (by with_reducible exact Int.lt_trans (by assumption) (by assumption)) (by with_reducible exact Int.add_nonneg (by assumption) (by assumption))
    refine ⟨_, by unfold stepR l_mul_limb_1b; subst hBB; (simp! [hs, lf, band_mask, hmul] <;> rfl), fun _ KK => KK (.val (.int x)) (p ++ [x]) (f ++ [(c + x * m) % B]) ((c + x * m) / B) (by rw [push_map, ← hBB]) rfl (by simp) (by simp [hl]) (hd.push hm') ?_ hq0 hq⟩
    rw [val_push, List.length_append, List.length_singleton, hl, carry_step, val_push]
    generalize B ^ p.length = P at *
    grind) a _ (fun _ KK => KK .unset ([]) ([]) 0 rfl rfl rfl rfl .nil (by simp [val]) (by with_reducible decide) (by with_reducible assumption))
  refine hF _ fun s p f c e4 h1 h2 h3 h4 h5 h6 h7 => ?_
  subst e4
  simp at h2
  subst h2
  exact ⟨s, f, c, e, h3, h4, h5, h6, h7⟩
theorem mul_limb_spec {X : Option FDef} {d w : Nat} {a : List Int} {n m : Int} (hd : 1 ≤ d) (hw : W w) (ha : Num (2 ^ w) n a) (la : a.length < lenLim) (h0 : 0 < m) (hm : m < 2 ^ w) :
    ∃ c, callI (TT X) d (.fn 5) none [vi a, .int m, .int w] = some (vi c, []) ∧ Num (2 ^ w) (n * m) c := by
  obtain ⟨d, rfl⟩ := Nat.exists_eq_add_of_le' hd
  have hB := hw.two
  obtain ⟨s, f, c, e, hl, fd, hv, c0, c1⟩ := mul_limb_loop (C := callI (TT X) d) hw ha.dig (by with_reducible exact Nat.le_of_lt (by assumption)) h0 hm
  have hz : ¬ m = 0 := by omega
  rw [ha.val] at hv
  have lf : f.length ≤ lenLim := by with_reducible exact ex1 (by assumption) (Nat.le_of_lt (by assumption))
  by_cases hc : c = 0
  · subst hc
    refine ⟨f, call_go (fd := d_mul_limb) (TT_tab (by decide) rfl) rfl rfl (fl := .ret (vi f)) ⟨_, by show xSs _ b_mul_limb _ = _; unfold b_mul_limb; (simp! [hz, msk hw, e, Int.lt_irrefl] <;> rfl)⟩ rfl, fd, nz_of (by with_reducible exact Int.lt_trans (by assumption) (by assumption)) fd fun hne => ?_, by rw [← hv]; omega⟩
    have hne' : a ≠ [] := by intro q; subst q; simp at hl; exact hne hl
    have := val_ge (by with_reducible exact Int.lt_trans (by assumption) (by assumption)) ha.dig ha.nz hne'
    have n0 := ha.nonneg (by with_reducible exact Int.lt_trans (by assumption) (by assumption))
    have h1 : n * 1 ≤ n * m := Int.mul_le_mul_of_nonneg_left (by omega) n0
    rw [ha.val] at this
    rw [hl]; omega
  · have hp : 0 < c := by omega
    exact ⟨f ++ [c], call_go (fd := d_mul_limb) (TT_tab (by decide) rfl) rfl rfl (fl := .ret (vi (f ++ [c]))) ⟨_, by show xSs _ b_mul_limb _ = _; unfold b_mul_limb; (simp! [hz, msk hw, e, hp, lf, push_map] <;> rfl)⟩ rfl, fd.push ⟨by with_reducible assumption, by with_reducible exact Int.lt_trans (by assumption) (by assumption)⟩, Nz.push hc, by rw [val_push, hl, hv]⟩
end Mine
end PSp4

section PSp5
namespace Mine

/-! sub -/
noncomputable def gt0 (l : List Int) (k : Nat) : Int := if h : k < l.length then l[k] else 0
theorem gt0_in {l : List Int} {k : Nat} (h : k < l.length) : gt0 l k = l[k] := by unfold gt0; rw [dif_pos h]
theorem gt0_out {l : List Int} {k : Nat} (h : l.length ≤ k) : gt0 l k = 0 := by unfold gt0; rw [dif_neg (by with_reducible exact Nat.not_lt.mpr (by assumption))]
theorem val_take0 {B : Int} {l : List Int} {k : Nat} : val B (l.take (k + 1)) = val B (l.take k) + B ^ k * gt0 l k := by
  by_cases h : k < l.length
  · rw [gt0_in h, val_take h]
  · rw [gt0_out (by with_reducible exact Nat.not_lt.mp (by assumption)), List.take_of_length_le (by omega), List.take_of_length_le (by with_reducible exact Nat.not_lt.mp (by assumption))]; omega
theorem Dig.gt0 {B : Int} {l : List Int} (hB : 0 < B) (h : Dig B l) (k : Nat) : 0 ≤ gt0 l k ∧ gt0 l k < B := by
  by_cases hk : k < l.length
  · rw [gt0_in hk]; exact h.get hk
  · rw [gt0_out (by with_reducible exact Nat.not_lt.mp (by assumption))]; with_reducible exact ⟨Int.le_refl _, by assumption⟩

theorem sub_loop {C : CallF} {w : Nat} {a b : List Int} (hw : W w) (ha : Dig (2 ^ w) a) (hb : Dig (2 ^ w) b) (la : a.length ≤ lenLim) (lb : b.length ≤ a.length) :
    ∃ s t f c, xS C l_sub_1 [.val (vi a), .val (vi b), .val (.int w), .unset, .own [], .val (.int 0), .val (.int (2 ^ w)), .unset] = some (.next, [.val (vi a), .val (vi b), .val (.int w), s, .own (f.map .int), .val (.int c), .val (.int (2 ^ w)), t]) ∧
      f.length = a.length ∧ Dig (2 ^ w) f ∧ val (2 ^ w) f - (2 ^ w) ^ a.length * c = val (2 ^ w) a - val (2 ^ w) b ∧ (c = 0 ∨ c = 1) := by
  have hB := hw.two
  generalize hBB : (2 : Int) ^ w = B at *
  have lb' : b.length ≤ lenLim := by with_reducible exact Nat.le_trans (by assumption) (by assumption)
  have hf := xS_forR (C := C) (kind := 1) (i := 3) (lo := .int 0) (hi := .lenv 0) (s := l_sub_1b) (fr := [.val (vi a), .val (vi b), .val (.int w), .unset, .own [], .val (.int 0), .val (.int B), .unset]) (a := 0) (b := a.length) (by (simp! [] <;> rfl)) (by (simp! [la] <;> rfl)) (by decide) (by unfold lenLim at la; unfold lim; with_reducible exact absL (by assumption) (by decide))
  rw [l_sub_1, hf]
  obtain ⟨f', e, hF⟩ := for_up (body := stepR C 3 l_sub_1b) (fun k fr => ∀ G : Prop, (∀ s t f c, fr = [.val (vi a), .val (vi b), .val (.int w), s, .own (f.map .int), .val (.int c), .val (.int B), t] → setOk (some s) = true → setOk (some t) = true → (f.length : Int) = k → Dig B f → val B f - B ^ f.length * c = val B (a.take f.length) - val B (b.take f.length) → ((c = 0 ∨ c = 1)) → G) → G) (lo := 0) (hi := a.length) (by with_reducible exact Int.natCast_nonneg _) (by
    intro k fr h1 h2 hI
    refine hI _ fun s t f c e4 hs ht hk hd hv hc => ?_
    subst e4
    subst hk
    have ka : f.length < a.length := by with_reducible exact Int.ofNat_lt.mp (by assumption)
    have ia := item_at ka la
    have lf : f.length ≤ lenLim := by with_reducible exact Nat.le_trans (Nat.le_of_lt (by assumption)) (by assumption)
    have xa := ha.get ka
    have xb := hb.gt0 (by with_reducible exact zlt_tr (by assumption) (by decide)) f.length
    have ht' : val B (b.take (f.length + 1)) = _ := val_take0
    by_cases hn : a[f.length] - c - gt0 b f.length < 0
    · refine ⟨_, ?_, fun _ KK => KK (.val (.int f.length)) (.val (.int (a[f.length] - c - gt0 b f.length))) (f ++ [a[f.length] - c - gt0 b f.length + B]) 1 rfl rfl rfl (by simp) (hd.push (by omega)) ?_ (.inr rfl)⟩
      · unfold stepR l_sub_1b
        by_cases kb : f.length < b.length
        · have ib := item_at kb lb'
          rw [gt0_in kb] at hn ⊢
          have hlt : (f.length : Int) < b.length := by with_reducible exact Int.ofNat_lt.mpr (by assumption)
          (simp! [hs, ht, ia, ib, lf, lb', hlt, hn, push_map] <;> rfl)
        · rw [gt0_out (by with_reducible exact Nat.not_lt.mp (by assumption))] at hn ⊢
          have hlt : ¬ (f.length : Int) < b.length := by omega
          (simp! [hs, ht, ia, lf, lb', hlt, hn, push_map] <;> rfl)
      · rw [val_push, List.length_append, List.length_singleton, val_take ka, ht', Int.pow_succ]
        generalize B ^ f.length = P at *
        grind
    · refine ⟨_, ?_, fun _ KK => KK (.val (.int f.length)) (.val (.int (a[f.length] - c - gt0 b f.length))) (f ++ [a[f.length] - c - gt0 b f.length]) 0 rfl rfl rfl (by simp) (hd.push (by omega)) ?_ (.inl rfl)⟩
      · unfold stepR l_sub_1b
        by_cases kb : f.length < b.length
        · have ib := item_at kb lb'
          rw [gt0_in kb] at hn ⊢
          have hlt : (f.length : Int) < b.length := by with_reducible exact Int.ofNat_lt.mpr (by assumption)
          (simp! [hs, ht, ia, ib, lf, lb', hlt, hn, push_map] <;> rfl)
        · rw [gt0_out (by with_reducible exact Nat.not_lt.mp (by assumption))] at hn ⊢
          have hlt : ¬ (f.length : Int) < b.length := by omega
          (simp! [hs, ht, ia, lf, lb', hlt, hn, push_map] <;> rfl)
      · rw [val_push, List.length_append, List.length_singleton, val_take ka, ht', Int.pow_succ]
        generalize B ^ f.length = P at *
        grind) _ (fun _ KK => KK .unset .unset ([]) 0 rfl rfl rfl rfl .nil (by simp [val]) (.inl rfl))
  refine hF _ fun s t f c e4 h1 h1' h2 h3 h4 h5 => ?_
  subst e4
  have hl : f.length = a.length := by omega
  rw [hl, List.take_length, List.take_of_length_le lb] at h4
  exact ⟨s, t, f, c, e, hl, h3, h4, h5⟩
theorem sub_spec {X : Option FDef} {d w : Nat} {a b : List Int} {n m : Int} (hd : 2 ≤ d) (hw : W w) (ha : Num (2 ^ w) n a) (hb : Num (2 ^ w) m b) (la : a.length ≤ lenLim) (hnm : m ≤ n) :
    ∃ c, callI (TT X) d (.fn 4) none [vi a, vi b, .int w] = some (vi c, []) ∧ Num (2 ^ w) (n - m) c := by
  obtain ⟨d, rfl⟩ := Nat.exists_eq_add_of_le' (show 1 ≤ d by with_reducible exact Nat.le_of_succ_le (by assumption))
  have hB := hw.two
  have lb : b.length ≤ a.length := by
    rcases Nat.lt_or_ge a.length b.length with q | q
    · have := len_lt (by with_reducible exact zlt_tr (by assumption) (by decide)) ha hb q; with_reducible exact absurd (by assumption) (Int.not_lt.mpr (by assumption))
    · exact q
  have hc := compare_spec (X := X) (d := d) (by with_reducible exact le_up (by assumption) (by decide)) (by with_reducible exact zlt_tr (by assumption) (by decide)) ha hb la (by with_reducible exact Nat.le_trans (by assumption) (by assumption))
  have hc0 : ¬ cmpR n m < 0 := by unfold cmpR; rw [if_neg (by with_reducible exact Int.not_lt.mpr (by assumption))]; split <;> with_reducible decide
  obtain ⟨s, t, f, c, e, hl, fd, hv, h01⟩ := sub_loop (C := callI (TT X) d) hw ha.dig hb.dig la lb
  rw [ha.val, hb.val] at hv
  have h0 : c = 0 := by
    rcases h01 with h | h
    · exact h
    · subst h
      have := val_lt (by with_reducible exact zlt_tr (by assumption) (by decide)) fd
      rw [hl] at this
      omega
  subst h0
  obtain ⟨g, eg, hg, _⟩ := normal_spec (X := X) (d := d) (a := f) (by with_reducible exact le_up (by assumption) (by decide)) (by with_reducible exact Nat.le_trans (Nat.le_of_eq (by assumption)) (by assumption)) fd
  refine ⟨g, call_go (fd := d_sub) (TT_tab (by decide) rfl) rfl rfl (fl := .ret (vi g)) ⟨_, by show xSs _ b_sub _ = _; unfold b_sub; (simp! [hc, hc0, msk hw, e, eg] <;> rfl)⟩ rfl, ?_⟩
  rw [show n - m = val (2 ^ w) f from by omega]; exact hg

/-! divrem_limb -/
theorem divrem_limb_loop {C : CallF} {w : Nat} {a : List Int} {m : Int} (hw : W w) (ha : Dig (2 ^ w) a) (la : a.length ≤ lenLim) (h0 : 0 < m) (hm : m < 2 ^ w) :
    ∃ s f r, xS C l_divrem_limb_1 [.val (vi a), .val (.int m), .val (.int w), .unset, .own ((List.replicate a.length 0).map .int), .val (.int 0)] = some (.next, [.val (vi a), .val (.int m), .val (.int w), s, .own (f.map .int), .val (.int r)]) ∧
      f.length = a.length ∧ Dig (2 ^ w) f ∧ val (2 ^ w) a = m * val (2 ^ w) f + r ∧ 0 ≤ r ∧ r < m := by
  have hB := hw.two
  have hT := hw.top
  generalize hBB : (2 : Int) ^ w = B at *
  have hf := xS_forR (C := C) (kind := 3) (i := 3) (lo := .bin .sub (.lenv 0) (.int 1)) (hi := .neg (.int 1)) (s := l_divrem_limb_1b) (fr := [.val (vi a), .val (.int m), .val (.int w), .unset, .own ((List.replicate a.length 0).map .int), .val (.int 0)]) (a := (a.length : Int) - 1) (b := -1) (by (simp! [la] <;> rfl)) (by (simp! [] <;> rfl)) (by unfold lenLim at la; unfold lim; with_reducible exact absL1 (by assumption) (by decide)) (by decide)
  rw [l_divrem_limb_1, hf]
  obtain ⟨f', e, hF⟩ := for_dn (body := stepR C 3 l_divrem_limb_1b) (fun k fr => ∀ G : Prop, (∀ s f r, fr = [.val (vi a), .val (.int m), .val (.int w), s, .own (f.map .int), .val (.int r)] → setOk (some s) = true → f.length = a.length → Dig B f → val B (a.drop (k + 1).toNat) = m * val B (f.drop (k + 1).toNat) + r → 0 ≤ r → r < m → G) → G) (lo := (a.length : Int) - 1) (hi := -1) (by omega) (by
    intro k fr h1 h2 hI
    refine hI _ fun s f r e3 hs hl hd hv r0 rm => ?_
    subst e3
    obtain ⟨k, rfl⟩ := Int.eq_ofNat_of_zero_le (show 0 ≤ k by omega)
    have ka : k < a.length := by omega
    have kf : k < f.length := by with_reducible exact Nat.lt_of_lt_of_eq (by assumption) (Eq.symm (by assumption))
    have ia := item_at ka la
    have xa := ha.get ka
    have lf : f.length ≤ lenLim := by with_reducible exact Nat.le_trans (Nat.le_of_eq (by assumption)) (by assumption)
    have hsh := binI_shl (a := r) (n := w) (by have := hw.2; with_reducible exact le_dn (by assumption) (by decide)) (sm_of r0 (by omega))
    have hor := bor_sh (x := r) (y := a[k]) (w := w) r0 xa.1 (by omega)
    rw [hBB] at hsh hor
    have hrB : r * B ≤ (m - 1) * B := Int.mul_le_mul_of_nonneg_right (by with_reducible exact Int.le_sub_one_of_lt (by assumption)) (by with_reducible exact zle_tr (by assumption) (by decide))
    have hr0 : 0 ≤ r * B := Int.mul_nonneg r0 (by with_reducible exact zle_tr (by assumption) (by decide))
    rw [Int.sub_mul, Int.one_mul] at hrB
    have hmB : m * B ≤ 65536 * 65536 := by
      have h1 : m * B ≤ 65536 * B := Int.mul_le_mul_of_nonneg_right (by with_reducible exact Int.le_trans (Int.le_of_lt (by assumption)) (by assumption)) (by with_reducible exact zle_tr (by assumption) (by decide))
      omega
    have hdiv := binI_div (a := r * B + a[k]) (b := m) h0 (sm_of (by with_reducible exact Int.add_nonneg (by assumption) (And.left (by assumption))) (by omega)) (sm_of (by with_reducible exact Int.le_of_lt (by assumption)) (by with_reducible exact s61 (by assumption) (by assumption)))
    have hmod := binI_mod (a := r * B + a[k]) (b := m) h0
    have hset := set_at (l := f) (k := k) (x := (r * B + a[k]) / m) kf lf
    have hq0 := div_nn (a := r * B + a[k]) h0 (by omega)
    have hq : (r * B + a[k]) / m < B := div_lt h0 (by rw [Int.mul_comm B m]; omega)
    have hmd := md (a := r * B + a[k]) h0
    refine ⟨_, by unfold stepR l_divrem_limb_1b; (simp! [hs, ia, hsh, hor, hdiv, hmod, hset] <;> rfl), fun _ KK => KK (.val (.int k)) (f.set k ((r * B + a[k]) / m)) ((r * B + a[k]) % m) rfl rfl (by simpa using hl) ?_ ?_ hmd.1 hmd.2⟩
    · intro x hx
      rcases List.mem_or_eq_of_mem_set hx with hx | rfl
      · exact hd x hx
      · exact ⟨hq0, hq⟩
    · have e1 : ((k : Int) - 1 + 1).toNat = k := by with_reducible exact tn1
      have e2 : ((k : Int) + 1).toNat = k + 1 := by omega
      rw [e2] at hv
      rw [e1, val_at ka, val_at (l := f.set k _) (by simpa using kf), List.getElem_set_self, List.drop_set_of_lt (by omega), hv]
      have := dm (r * B + a[k]) m
      grind) _ (fun _ KK => KK .unset (List.replicate a.length 0) 0 rfl rfl (by simp) (fun x hx => by rw [(List.mem_replicate.mp hx).2]; omega) (by rw [show ((a.length : Int) - 1 + 1).toNat = a.length from by with_reducible exact tn1, List.drop_length, List.drop_eq_nil_of_le (by simp)]; simp [val]) (by with_reducible decide) h0)
  refine hF _ fun s f r e3 h1 h2 h3 h4 h5 h6 => ?_
  subst e3
  refine ⟨s, f, r, e, h2, h3, by simpa using h4, h5, h6⟩
theorem divrem_limb_spec {X : Option FDef} {d w : Nat} {a : List Int} {n m : Int} (hd : 2 ≤ d) (hw : W w) (ha : Num (2 ^ w) n a) (la : a.length ≤ lenLim) (h0 : 0 < m) (hm : m < 2 ^ w) :
    ∃ c, callI (TT X) d (.fn 6) none [vi a, .int m, .int w] = some (.tup [vi c, .int (n % m)], []) ∧ Num (2 ^ w) (n / m) c := by
  obtain ⟨d, rfl⟩ := Nat.exists_eq_add_of_le' (show 1 ≤ d by with_reducible exact Nat.le_of_succ_le (by assumption))
  obtain ⟨s, f, r, e, hl, fd, hv, r0, rm⟩ := divrem_limb_loop (C := callI (TT X) d) hw ha.dig la h0 hm
  obtain ⟨g, eg, hg, _⟩ := normal_spec (X := X) (d := d) (a := f) (by with_reducible exact le_up (by assumption) (by decide)) (by with_reducible exact Nat.le_trans (Nat.le_of_eq (by assumption)) (by assumption)) fd
  rw [ha.val] at hv
  have hz : ¬ m = 0 := by omega
  have hr := bin_rep (x := 0) la
  have hq : n / m = val (2 ^ w) f ∧ n % m = r := by
    have := Int.ediv_emod_unique (a := n) (b := m) (r := r) (q := val (2 ^ w) f) h0
    exact this.mpr ⟨by omega, r0, rm⟩
  refine ⟨g, call_go (fd := d_divrem_limb) (TT_tab (by decide) rfl) rfl rfl (fl := .ret (.tup [vi g, .int (n % m)])) ⟨_, by show xSs _ b_divrem_limb _ = _; unfold b_divrem_limb; rw [hq.2]; (simp! [hz, la, hr, e, eg] <;> rfl)⟩ rfl, ?_⟩
  rw [hq.1]; exact hg
end Mine
end PSp5

section PSp6
namespace Mine

/-! nat_of and _law_limbs -/
structure LI (B N x : Int) (f : List Int) : Prop where
  dig : Dig B f
  nn : 0 ≤ x
  val : val B f + B ^ f.length * x = N
  nz : x = 0 → Nz f
theorem LI.step {B N x : Int} {f : List Int} (hB : 2 ≤ B) (h : LI B N x f) (hx : 0 < x) : LI B N (x / B) (f ++ [x % B]) := by
  have hm := md (a := x) (b := B) (by with_reducible exact zlt_tr (by assumption) (by decide))
  refine ⟨h.dig.push hm, div_nn (by with_reducible exact zlt_tr (by assumption) (by decide)) h.nn, ?_, fun e => Nz.push fun q => ?_⟩
  · rw [val_push, List.length_append, List.length_singleton, carry_step]; exact h.val
  · have := dm x B
    rw [e, q] at this; omega
theorem two_pow_le {B : Int} (hB : 2 ≤ B) : ∀ k : Nat, (2 : Int) ^ k ≤ B ^ k
  | 0 => by simp
  | k + 1 => by
    have h1 := two_pow_le hB k
    have h2 := pow_pos' (show (0 : Int) < 2 by with_reducible decide) k
    rw [Int.pow_succ, Int.pow_succ]
    have h3 : 2 ^ k * 2 ≤ 2 ^ k * B := Int.mul_le_mul_of_nonneg_left hB (by with_reducible exact Int.le_of_lt (by assumption))
    have h4 : 2 ^ k * B ≤ B ^ k * B := Int.mul_le_mul_of_nonneg_right h1 (by with_reducible exact zle_tr (by assumption) (by decide))
    with_reducible exact Int.le_trans (by assumption) (by assumption)
theorem LI.len {B N x : Int} {f : List Int} (hB : 2 ≤ B) (h : LI B N x f) (hx : 0 < x) (hN : N < 2 ^ 60) : f.length < 60 := by
  rcases Nat.lt_or_ge f.length 60 with q | q
  · exact q
  · have h1 := pow_mono (show (0 : Int) < 2 by with_reducible decide) q
    have h2 := two_pow_le hB f.length
    have h3 : B ^ f.length * 1 ≤ B ^ f.length * x := Int.mul_le_mul_of_nonneg_left (by omega) (by have := pow_pos' (show 0 < B by with_reducible exact zlt_tr (by assumption) (by decide)) f.length; with_reducible exact Int.le_of_lt (by assumption))
    have h4 := val_nonneg (by with_reducible exact zle_tr (by assumption) (by decide)) h.dig
    have h5 := h.val
    omega
theorem LI.done {B N : Int} {f : List Int} (h : LI B N 0 f) : Num B N f := ⟨h.dig, h.nz rfl, by have := h.val; simpa using this⟩
theorem LI.start {B N : Int} (h : 0 ≤ N) : LI B N N [] := ⟨.nil, h, by simp [Mine.val], fun _ => .nil⟩
theorem div_dec {B x : Int} (hB : 2 ≤ B) (hx : 0 < x) : (x / B).toNat < x.toNat := by
  have h1 : x / B < x := div_lt (by with_reducible exact zlt_tr (by assumption) (by decide)) (by
    have : x * 2 ≤ x * B := Int.mul_le_mul_of_nonneg_left hB (by with_reducible exact Int.le_of_lt (by assumption))
    omega)
  omega
theorem nat_of_spec {X : Option FDef} {d w : Nat} {n : Int} (hd : 1 ≤ d) (hw : W w) (h0 : 0 ≤ n) (hn : n < 2 ^ 60) :
    ∃ c, callI (TT X) d (.fn 1) none [.int n, .int w] = some (vi c, []) ∧ Num (2 ^ w) n c := by
  obtain ⟨d, rfl⟩ := Nat.exists_eq_add_of_le' hd
  have hB := hw.two
  have L : ∃ f', xS (callI (TT X) d) l_nat_of_1 [.val (.int n), .val (.int w), .own [], .val (.int (2 ^ w - 1))] = some (.next, f') ∧ ∃ f, f' = [.val (.int 0), .val (.int w), .own (f.map .int), .val (.int (2 ^ w - 1))] ∧ Num (2 ^ w) n f := by
    rw [l_nat_of_1, xS_wh]
    refine while_inv (fun k fr => ∃ x f, fr = [.val (.int x), .val (.int w), .own (f.map .int), .val (.int (2 ^ w - 1))] ∧ LI (2 ^ w) n x f ∧ x.toNat = k) _ ?_ n.toNat _ ⟨n, [], rfl, LI.start h0, rfl⟩
    rintro k fr ⟨x, f, rfl, hi, rfl⟩
    by_cases hx : 0 < x
    · right
      have lf : f.length ≤ lenLim := by have := hi.len hB hx hn; unfold lenLim; omega
      exact ⟨_, _, _, by unfold l_nat_of_1t; (simp! [hx] <;> rfl), .inl (by unfold l_nat_of_1b; (simp! [lf, band_mask, push_map] <;> rfl)), div_dec hB hx, _, _, rfl, hi.step hB hx, rfl⟩
    · left
      have hx0 : x = 0 := by have := hi.nn; omega
      subst hx0
      exact ⟨_, by unfold l_nat_of_1t; (simp! [Int.lt_irrefl] <;> rfl), f, rfl, hi.done⟩
  obtain ⟨f', e, f, rfl, hf⟩ := L
  have hneg : ¬ n < 0 := by with_reducible exact Int.not_lt.mpr (by assumption)
  exact ⟨f, call_go (fd := d_nat_of) (TT_tab (by decide) rfl) rfl rfl (fl := .ret (vi f)) ⟨_, by show xSs _ b_nat_of _ = _; unfold b_nat_of; (simp! [hneg, msk hw, e] <;> rfl)⟩ rfl, hf⟩
theorem binI_pow {a : Int} {n : Nat} (h : n ≤ 100000) (ha : a.natAbs < lim) : binI .pow a n = some (a ^ n) := by
  unfold binI
  dsimp only
  rw [if_pos ⟨by with_reducible exact Int.natCast_nonneg _, by omega, ha⟩, Int.toNat_natCast]
theorem law_limbs_spec {X : Option FDef} {d w : Nat} {n : Int} (hd : 1 ≤ d) (hw : W w) (h0 : 0 ≤ n) (hn : n < 2 ^ 60) :
    ∃ c, callI (TT X) d (.fn 37) none [.int n, .int w] = some (vi c, []) ∧ Num (2 ^ w) n c := by
  obtain ⟨d, rfl⟩ := Nat.exists_eq_add_of_le' hd
  have hB := hw.two
  have hT := hw.top
  have hp : binI .pow 2 w = some (2 ^ w) := binI_pow (by have := hw.2; with_reducible exact le_dn (by assumption) (by decide)) (by decide)
  have L : ∃ f', xS (callI (TT X) d) l_law_limbs_1 [.val (.int n), .val (.int w), .own []] = some (.next, f') ∧ ∃ f, f' = [.val (.int 0), .val (.int w), .own (f.map .int)] ∧ Num (2 ^ w) n f := by
    rw [l_law_limbs_1, xS_wh]
    refine while_inv (fun k fr => ∃ x f, fr = [.val (.int x), .val (.int w), .own (f.map .int)] ∧ LI (2 ^ w) n x f ∧ x.toNat = k ∧ x < 2 ^ 60) _ ?_ n.toNat _ ⟨n, [], rfl, LI.start h0, rfl, hn⟩
    rintro k fr ⟨x, f, rfl, hi, rfl, hx6⟩
    by_cases hx : 0 < x
    · right
      have lf : f.length ≤ lenLim := by have := hi.len hB hx hn; unfold lenLim; omega
      have hmod := binI_mod (a := x) (b := 2 ^ w) (by with_reducible exact zlt_tr (by assumption) (by decide))
      have hdiv := binI_div (a := x) (b := 2 ^ w) (by with_reducible exact zlt_tr (by assumption) (by decide)) (sm_of (by with_reducible exact Int.le_of_lt (by assumption)) (by with_reducible exact zlt_dn (by assumption) (by decide))) (sm_of (by with_reducible exact zle_tr (by assumption) (by decide)) (by omega))
      have hdd := div_dec hB hx
      exact ⟨_, _, _, by unfold l_law_limbs_1t; (simp! [hx] <;> rfl), .inl (by unfold l_law_limbs_1b; (simp! [lf, hp, hmod, hdiv, push_map] <;> rfl)), hdd, _, _, rfl, hi.step hB hx, rfl, by omega⟩
    · left
      have hx0 : x = 0 := by have := hi.nn; omega
      subst hx0
      exact ⟨_, by unfold l_law_limbs_1t; (simp! [Int.lt_irrefl] <;> rfl), f, rfl, hi.done⟩
  obtain ⟨f', e, f, rfl, hf⟩ := L
  exact ⟨f, call_go (fd := d_law_limbs) (TT_tab (by decide) rfl) rfl rfl (fl := .ret (vi f)) ⟨_, by show xSs _ b_law_limbs _ = _; unfold b_law_limbs; (simp! [e] <;> rfl)⟩ rfl, hf⟩

/-! shift_left -/
theorem shift_left_loop {C : CallF} {w n : Nat} {a : List Int} (hw : W w) (hn : n < w) (ha : Dig (2 ^ w) a) (la : a.length ≤ lenLim) :
    ∃ s f c, xS C l_shift_left_1 [.val (vi a), .val (.int n), .val (.int w), .unset, .val (.int 0), .val (.int n), .own [], .val (.int 0), .val (.int (2 ^ w - 1))] = some (.next, [.val (vi a), .val (.int n), .val (.int w), s, .val (.int 0), .val (.int n), .own (f.map .int), .val (.int c), .val (.int (2 ^ w - 1))]) ∧
      f.length = a.length ∧ Dig (2 ^ w) f ∧ val (2 ^ w) f + (2 ^ w) ^ a.length * c = val (2 ^ w) a * 2 ^ n ∧ 0 ≤ c ∧ c < 2 ^ n := by
  have hB := hw.two
  have hT := hw.top
  have hp := pow_pos' (show (0 : Int) < 2 by with_reducible decide) n
  have hf := xS_forL (C := C) (i := 3) (e := .var 0) (s := l_shift_left_1b) (fr := [.val (vi a), .val (.int n), .val (.int w), .unset, .val (.int 0), .val (.int n), .own [], .val (.int 0), .val (.int (2 ^ w - 1))]) (vs := a.map .int) (by (simp! [] <;> rfl)) (by simpa using la)
  rw [l_shift_left_1, hf]
  obtain ⟨f', e, hF⟩ := for_ints (body := stepR C 3 l_shift_left_1b) (fun r fr => ∀ G : Prop, (∀ s p f c, fr = [.val (vi a), .val (.int n), .val (.int w), s, .val (.int 0), .val (.int n), .own (f.map .int), .val (.int c), .val (.int (2 ^ w - 1))] → setOk (some s) = true → a = p ++ r → f.length = p.length → Dig (2 ^ w) f → val (2 ^ w) f + (2 ^ w) ^ p.length * c = val (2 ^ w) p * 2 ^ n → 0 ≤ c → c < 2 ^ n → G) → G) (by
    intro x r fr hI
    refine hI _ fun s p f c e4 hs e6 hl hd hv c0 c1 => ?_
    subst e4
    subst e6
    have lf : f.length ≤ lenLim := by simp at la; omega
    have hx := ha x (by simp)
    have hsh := binI_shl (a := x) (n := n) (by have := hw.2; omega) (sm_of hx.1 (by with_reducible exact s61 (And.right (by assumption)) (by assumption)))
    have hor := bor_sh' (x := x) (y := c) (w := n) hx.1 c0 c1
    have hxB : x * 2 ^ n ≤ (2 ^ w - 1) * 2 ^ n := Int.mul_le_mul_of_nonneg_right (by with_reducible exact Int.le_sub_one_of_lt (And.right (by assumption))) (by with_reducible exact Int.le_of_lt (by assumption))
    have hx0 : 0 ≤ x * 2 ^ n := Int.mul_nonneg hx.1 (by with_reducible exact Int.le_of_lt (by assumption))
    have hm' := md (a := x * 2 ^ n + c) (b := 2 ^ w) (by with_reducible exact zlt_tr (by assumption) (by decide))
    have hq : (x * 2 ^ n + c) / 2 ^ w < 2 ^ n := div_lt (by with_reducible exact zlt_tr (by assumption) (by decide)) (by rw [Int.sub_mul, Int.one_mul, Int.mul_comm (2 ^ w)] at hxB; omega)
    have hq0 := div_nn (a := x * 2 ^ n + c) (b := 2 ^ w) (by with_reducible exact zlt_tr (by assumption) (by decide)) (by with_reducible exact Int.add_nonneg (by assumption) (by assumption))
    refine ⟨_, by unfold stepR l_shift_left_1b; (simp! [hs, lf, band_mask, hsh, hor] <;> rfl), fun _ KK => KK (.val (.int x)) (p ++ [x]) (f ++ [(x * 2 ^ n + c) % 2 ^ w]) ((x * 2 ^ n + c) / 2 ^ w) (by rw [push_map]) rfl (by simp) (by simp [hl]) (hd.push hm') ?_ hq0 hq⟩
    rw [val_push, List.length_append, List.length_singleton, hl, carry_step, val_push]
    generalize (2 ^ w : Int) ^ p.length = P at *
    grind) a _ (fun _ KK => KK .unset ([]) ([]) 0 rfl rfl rfl rfl .nil (by simp [val]) (by with_reducible decide) (by with_reducible assumption))
  refine hF _ fun s p f c e4 h1 h2 h3 h4 h5 h6 h7 => ?_
  subst e4
  simp at h2
  subst h2
  exact ⟨s, f, c, e, h3, h4, h5, h6, h7⟩
theorem div_small {w n : Nat} (hw : W w) (hn : n < w) : binI .div n w = some 0 := by
  rw [binI_div (by omega) (sm_of (by with_reducible exact Int.natCast_nonneg _) (by have := hw.2; omega)) (sm_of (by with_reducible exact Int.natCast_nonneg _) (by have := hw.2; omega)), Int.ediv_eq_zero_of_lt (by with_reducible exact Int.natCast_nonneg _) (by with_reducible exact Int.ofNat_lt.mpr (by assumption))]
theorem mod_small {w n : Nat} (hw : W w) (hn : n < w) : binI .mod n w = some (n : Int) := by
  rw [binI_mod (by omega), Int.emod_eq_of_lt (by with_reducible exact Int.natCast_nonneg _) (by with_reducible exact Int.ofNat_lt.mpr (by assumption))]
theorem shift_left_spec {X : Option FDef} {d w n : Nat} {a : List Int} {N : Int} (hd : 1 ≤ d) (hw : W w) (hn : n < w) (ha : Num (2 ^ w) N a) (la : a.length < lenLim) :
    ∃ c, callI (TT X) d (.fn 7) none [vi a, .int n, .int w] = some (vi c, []) ∧ Num (2 ^ w) (N * 2 ^ n) c := by
  obtain ⟨d, rfl⟩ := Nat.exists_eq_add_of_le' hd
  have hB := hw.two
  have la' : a.length ≤ lenLim := by with_reducible exact Nat.le_of_lt (by assumption)
  by_cases hne : a.length = 0
  · have : a = [] := List.eq_nil_of_length_eq_zero hne
    subst this
    have hN : N = 0 := by rw [← ha.val]; rfl
    subst hN
    refine ⟨[], call_go (fd := d_shift_left) (TT_tab (by decide) rfl) rfl rfl (fl := .ret (vi [])) ⟨_, by show xSs _ b_shift_left _ = _; unfold b_shift_left; (simp! [List.length_nil, Nat.zero_le, Int.natCast_zero] <;> rfl)⟩ rfl, ?_⟩
    rw [Int.zero_mul]; exact Num.zero
  · have hni : ¬ (a.length : Int) = 0 := by omega
    obtain ⟨s, f, c, e, hl, fd, hv, c0, c1⟩ := shift_left_loop (C := callI (TT X) d) hw hn ha.dig la'
    rw [ha.val] at hv
    have lf : f.length ≤ lenLim := by with_reducible exact Nat.le_trans (Nat.le_of_eq (by assumption)) (by assumption)
    have h0 := bin_rep (n := 0) (x := 0) (by decide)
    have h0' : bin .mul (.list [.int 0]) (.int 0) = some (.fresh []) := h0
    have hp := pow_pos' (show (0 : Int) < 2 by with_reducible decide) n
    by_cases hc : c = 0
    · subst hc
      refine ⟨f, call_go (fd := d_shift_left) (TT_tab (by decide) rfl) rfl rfl (fl := .ret (vi f)) ⟨_, by show xSs _ b_shift_left _ = _; unfold b_shift_left; (simp! [la', hni, div_small hw hn, mod_small hw hn, h0', msk hw, e, Int.lt_irrefl] <;> rfl)⟩ rfl, fd, nz_of (by with_reducible exact zlt_tr (by assumption) (by decide)) fd fun hfe => ?_, by rw [← hv]; omega⟩
      have hne' : a ≠ [] := by intro q; subst q; exact hfe (List.eq_nil_of_length_eq_zero hl)
      have := val_ge (by with_reducible exact zlt_tr (by assumption) (by decide)) ha.dig ha.nz hne'
      have n0 := ha.nonneg (by with_reducible exact zlt_tr (by assumption) (by decide))
      have h1 : N * 1 ≤ N * 2 ^ n := Int.mul_le_mul_of_nonneg_left (by omega) n0
      rw [ha.val] at this
      rw [hl]; omega
    · have hcp : 0 < c := by omega
      have hcB : c < 2 ^ w := by have := pow_mono (show (0 : Int) < 2 by with_reducible decide) (show n ≤ w by with_reducible exact Nat.le_of_lt (by assumption)); with_reducible exact Int.lt_of_lt_of_le (by assumption) (by assumption)
      exact ⟨f ++ [c], call_go (fd := d_shift_left) (TT_tab (by decide) rfl) rfl rfl (fl := .ret (vi (f ++ [c]))) ⟨_, by show xSs _ b_shift_left _ = _; unfold b_shift_left; (simp! [la', hni, div_small hw hn, mod_small hw hn, h0', msk hw, e, hcp, lf, push_map] <;> rfl)⟩ rfl, fd.push ⟨by with_reducible assumption, by with_reducible assumption⟩, Nz.push hc, by rw [val_push, hl, hv]⟩
end Mine
end PSp6

section PSp7
namespace Mine

/-! shift_right -/
theorem sr_limb {w n : Nat} (hn : n < w) {x y : Int} (hx : 0 ≤ x ∧ x < 2 ^ w) (hy : 0 ≤ y) : ∃ v, PySem.Builtin.bitOr (x / 2 ^ n) (y * 2 ^ (w - n)) % 2 ^ w = v ∧ 0 ≤ v ∧ v < 2 ^ w ∧ 2 ^ n * v = x - x % 2 ^ n + 2 ^ w * (y % 2 ^ n) := by
  have hp := pow_pos' (show (0 : Int) < 2 by with_reducible decide) n
  have hq := pow_pos' (show (0 : Int) < 2 by with_reducible decide) (w - n)
  have hB : (2 : Int) ^ w = 2 ^ n * 2 ^ (w - n) := by rw [← Int.pow_add, show n + (w - n) = w from by with_reducible exact Nat.add_sub_cancel' (Nat.le_of_lt (by assumption))]
  have h1 : x / 2 ^ n < 2 ^ (w - n) := div_lt hp (by rw [Int.mul_comm, ← hB]; exact hx.2)
  have h0 : 0 ≤ x / 2 ^ n := div_nn hp hx.1
  have hm := md (a := y) hp
  have hd := dm y (2 ^ n)
  have hd2 := dm x (2 ^ n)
  have h2 : y % 2 ^ n * 2 ^ (w - n) ≤ (2 ^ n - 1) * 2 ^ (w - n) := Int.mul_le_mul_of_nonneg_right (by with_reducible exact Int.le_sub_one_of_lt (And.right (by assumption))) (by with_reducible exact Int.le_of_lt (by assumption))
  have h3 : 0 ≤ y % 2 ^ n * 2 ^ (w - n) := Int.mul_nonneg hm.1 (by with_reducible exact Int.le_of_lt (by assumption))
  rw [Int.sub_mul, Int.one_mul, ← hB] at h2
  refine ⟨y % 2 ^ n * 2 ^ (w - n) + x / 2 ^ n, ?_, by with_reducible exact Int.add_nonneg (by assumption) (by assumption), by omega, ?_⟩
  · rw [bor_sh' hy h0 h1]
    have e : y * 2 ^ (w - n) + x / 2 ^ n = (y % 2 ^ n * 2 ^ (w - n) + x / 2 ^ n) + 2 ^ w * (y / 2 ^ n) := by
      rw [hB]
      generalize (2 : Int) ^ n = P at *
      generalize (2 : Int) ^ (w - n) = Q at *
      generalize y % P = r at *
      generalize y / P = s at *
      subst hd
      grind
    rw [e, Int.add_mul_emod_self_left, Int.emod_eq_of_lt (by omega) (by omega)]
  · rw [hB]
    generalize (2 : Int) ^ n = P at *
    generalize (2 : Int) ^ (w - n) = Q at *
    grind

theorem shift_right_loop {C : CallF} {w n : Nat} {a : List Int} (hw : W w) (hn : n < w) (ha : Dig (2 ^ w) a) (la : a.length ≤ lenLim) :
    ∃ s t f, xS C l_shift_right_1 [.val (vi a), .val (.int n), .val (.int w), .unset, .val (.int 0), .val (.int n), .own [], .val (.int (2 ^ w - 1)), .unset] = some (.next, [.val (vi a), .val (.int n), .val (.int w), s, .val (.int 0), .val (.int n), .own (f.map .int), .val (.int (2 ^ w - 1)), t]) ∧
      f.length = a.length ∧ Dig (2 ^ w) f ∧ 2 ^ n * val (2 ^ w) f = val (2 ^ w) a - gt0 a 0 % 2 ^ n := by
  have hB := hw.two
  have hT := hw.top
  have hf := xS_forR (C := C) (kind := 2) (i := 3) (lo := .var 4) (hi := .lenv 0) (s := l_shift_right_1b) (fr := [.val (vi a), .val (.int n), .val (.int w), .unset, .val (.int 0), .val (.int n), .own [], .val (.int (2 ^ w - 1)), .unset]) (a := 0) (b := a.length) (by (simp! [] <;> rfl)) (by (simp! [la] <;> rfl)) (by decide) (by unfold lenLim at la; unfold lim; with_reducible exact absL (by assumption) (by decide))
  rw [l_shift_right_1, hf]
  obtain ⟨f', e, hF⟩ := for_up (body := stepR C 3 l_shift_right_1b) (fun k fr => ∀ G : Prop, (∀ s t f, fr = [.val (vi a), .val (.int n), .val (.int w), s, .val (.int 0), .val (.int n), .own (f.map .int), .val (.int (2 ^ w - 1)), t] → setOk (some s) = true → setOk (some t) = true → (f.length : Int) = k → Dig (2 ^ w) f → 2 ^ n * val (2 ^ w) f = val (2 ^ w) (a.take f.length) - gt0 a 0 % 2 ^ n + (2 ^ w) ^ f.length * (gt0 a f.length % 2 ^ n) → G) → G) (lo := 0) (hi := a.length) (by with_reducible exact Int.natCast_nonneg _) (by
    intro k fr h1 h2 hI
    refine hI _ fun s t f e3 hs ht hk hd hv => ?_
    subst e3
    subst hk
    have ka : f.length < a.length := by with_reducible exact Int.ofNat_lt.mp (by assumption)
    have ia := item_at ka la
    have lf : f.length ≤ lenLim := by with_reducible exact Nat.le_trans (Nat.le_of_lt (by assumption)) (by assumption)
    have xa := ha.get ka
    have ya := ha.gt0 (by with_reducible exact zlt_tr (by assumption) (by decide)) (f.length + 1)
    have hsub : ((w : Int) - (n : Int)) = ((w - n : Nat) : Int) := by with_reducible exact (Int.ofNat_sub (Nat.le_of_lt (by assumption))).symm
    have hsh := binI_shl (a := gt0 a (f.length + 1)) (n := w - n) (by have := hw.2; omega) (sm_of ya.1 (by with_reducible exact s61 (And.right (by assumption)) (by assumption)))
    obtain ⟨v, ev, v0, v1, hvv⟩ := sr_limb hn xa ya.1
    refine ⟨_, ?_, fun _ KK => KK (.val (.int f.length)) (.val (.int (gt0 a (f.length + 1)))) (f ++ [v]) rfl rfl rfl (by simp) (hd.push ⟨v0, v1⟩) ?_⟩
    · unfold stepR l_shift_right_1b
      by_cases kb : f.length + 1 < a.length
      · have ib : item (a.map .int) ((f.length : Int) + 1) = some (.int a[f.length + 1]) := by
          have := item_at kb la; exact this
        rw [gt0_in kb] at hsh ev ⊢
        have hlt : (f.length : Int) + 1 < a.length := by omega
        (simp! [hs, ht, ia, ib, la, lf, hlt, hsub, hsh, band_mask, ev, push_map] <;> rfl)
      · rw [gt0_out (by with_reducible exact Nat.not_lt.mp (by assumption))] at hsh ev ⊢
        have hlt : ¬ (f.length : Int) + 1 < a.length := by omega
        (simp! [hs, ht, ia, la, lf, hlt, hsub, hsh, band_mask, ev, push_map] <;> rfl)
    · rw [val_push, List.length_append, List.length_singleton, val_take ka, Int.pow_succ]
      rw [gt0_in ka] at hv
      generalize (2 ^ w : Int) ^ f.length = P at *
      generalize a[f.length] % 2 ^ n = r at *
      generalize gt0 a (f.length + 1) % 2 ^ n = r' at *
      generalize gt0 a 0 % 2 ^ n = r0 at *
      grind) _ (fun _ KK => KK .unset .unset ([]) rfl rfl rfl rfl .nil (by simp [val]; omega))
  refine hF _ fun s t f e3 h1 h1' h2 h3 h4 => ?_
  subst e3
  have hl : f.length = a.length := by omega
  rw [hl, List.take_length, gt0_out (Nat.le_refl _)] at h4
  exact ⟨s, t, f, e, hl, h3, by simpa using h4⟩
theorem shift_right_spec {X : Option FDef} {d w n : Nat} {a : List Int} {N : Int} (hd : 2 ≤ d) (hw : W w) (hn : n < w) (ha : Num (2 ^ w) N a) (la : a.length ≤ lenLim) :
    ∃ c, callI (TT X) d (.fn 8) none [vi a, .int n, .int w] = some (vi c, []) ∧ Num (2 ^ w) (N / 2 ^ n) c := by
  obtain ⟨d, rfl⟩ := Nat.exists_eq_add_of_le' (show 1 ≤ d by with_reducible exact Nat.le_of_succ_le (by assumption))
  have hp := pow_pos' (show (0 : Int) < 2 by with_reducible decide) n
  obtain ⟨s, t, f, e, hl, fd, hv⟩ := shift_right_loop (C := callI (TT X) d) hw hn ha.dig la
  obtain ⟨g, eg, hg, _⟩ := normal_spec (X := X) (d := d) (a := f) (by with_reducible exact le_up (by assumption) (by decide)) (by with_reducible exact Nat.le_trans (Nat.le_of_eq (by assumption)) (by assumption)) fd
  rw [ha.val] at hv
  have hm := md (a := gt0 a 0) hp
  have hq : N / 2 ^ n = val (2 ^ w) f := ((Int.ediv_emod_unique (r := gt0 a 0 % 2 ^ n) hp).mpr ⟨by omega, hm.1, hm.2⟩).1
  refine ⟨g, call_go (fd := d_shift_right) (TT_tab (by decide) rfl) rfl rfl (fl := .ret (vi g)) ⟨_, by show xSs _ b_shift_right _ = _; unfold b_shift_right; (simp! [div_small hw hn, mod_small hw hn, msk hw, e, eg] <;> rfl)⟩ rfl, ?_⟩
  rw [hq]; exact hg

/-! bits, bit -/
theorem bitLen_of {x : Int} (h : 0 < x) : ∃ j : Nat, bitLen x = j ∧ 0 < j ∧ 2 ^ (j - 1) ≤ x ∧ x < 2 ^ j := by
  obtain ⟨n, rfl⟩ := Int.eq_ofNat_of_zero_le (show 0 ≤ x by with_reducible exact Int.le_of_lt (by assumption))
  have hn : n ≠ 0 := by omega
  refine ⟨n.log2 + 1, ?_, by with_reducible exact Nat.succ_pos _, ?_, ?_⟩
  · unfold bitLen PySem.Builtin.Int.intBits
    have : ((n : Int) == 0) = false := by simp; with_reducible assumption
    rw [this]; simp
  · have := Nat.log2_self_le hn
    exact_mod_cast this
  · have := Nat.lt_log2_self (n := n)
    exact_mod_cast this
theorem item_last {r : List Int} {x : Int} : item ((r ++ [x]).map .int) (-1) = some (.int x) := by
  unfold item
  rw [if_pos (by decide), if_neg (by with_reducible decide), if_pos (by simp; omega)]
  rw [show (((List.map V.int (r ++ [x])).length : Int) + -1).toNat = r.length from by simp only [List.length_map, List.length_append, List.length_singleton]; omega]
  simp
theorem pow_pow (w k : Nat) : ((2 : Int) ^ w) ^ k = 2 ^ (w * k) := by rw [Int.pow_mul]
theorem bits_spec {X : Option FDef} {d w : Nat} {a : List Int} {N : Int} (hd : 1 ≤ d) (hw : W w) (ha : Num (2 ^ w) N a) (la : a.length ≤ lenLim) (h0 : 0 < N) :
    ∃ k : Nat, callI (TT X) d (.fn 9) none [vi a, .int w] = some (.int k, []) ∧ 0 < k ∧ 2 ^ (k - 1) ≤ N ∧ N < 2 ^ k := by
  obtain ⟨d, rfl⟩ := Nat.exists_eq_add_of_le' hd
  have hB := hw.two
  have hne : a ≠ [] := fun e => by have := (ha.nil_iff (by with_reducible exact zlt_tr (by assumption) (by decide))).mp e; omega
  obtain ⟨r, x, rfl⟩ : ∃ r x, a = r ++ [x] := ⟨a.dropLast, a.getLast hne, (List.dropLast_concat_getLast hne).symm⟩
  have hx := ha.dig x (by simp)
  have hx0 : x ≠ 0 := by have := ha.nz; simpa [Nz] using this
  obtain ⟨j, ej, j0, jl, jh⟩ := bitLen_of (x := x) (by omega)
  have hr : Dig (2 ^ w) r := ha.dig.sub (by simp +contextual)
  have hv := ha.val
  have r0 := val_nonneg (by with_reducible exact zle_tr (by assumption) (by decide)) hr
  have r1 := val_lt (by with_reducible exact zlt_tr (by assumption) (by decide)) hr
  rw [val_push, pow_pow] at hv
  rw [pow_pow] at r1
  have hlen : (0 : Int) < ((r ++ [x]).length : Int) := by simp only [List.length_append, List.length_singleton]; omega
  have hmul := binI_mul (a := ((r ++ [x]).length : Int) - 1) (b := w) (by unfold lenLim at la; unfold lim; with_reducible exact absL1 (by assumption) (by decide)) (by have := hw.2; unfold lim; with_reducible exact absL (by assumption) (by decide))
  have hk : ((((r ++ [x]).length : Int) - 1) * w + (j : Int)) = ((w * r.length + j : Nat) : Int) := by
    rw [List.length_append, List.length_singleton]
    push_cast
    rw [show (r.length : Int) + 1 - 1 = r.length from by omega, Int.mul_comm]
  have hP := pow_pos' (show (0 : Int) < 2 by with_reducible decide) (w * r.length)
  refine ⟨w * r.length + j, call_go (fd := d_bits) (TT_tab (by decide) rfl) rfl rfl (fl := .ret (.int ((w * r.length + j : Nat) : Int))) ⟨_, by show xSs _ b_bits _ = _; unfold b_bits; (simp! [la, hlen, hmul, item_last, ej, hk] <;> rfl)⟩ rfl, by omega, ?_, ?_⟩
  · rw [show w * r.length + j - 1 = w * r.length + (j - 1) from (by first | exact Nat.add_sub_assoc (by assumption) _ | omega), Int.pow_add]
    have : 2 ^ (w * r.length) * 2 ^ (j - 1) ≤ 2 ^ (w * r.length) * x := Int.mul_le_mul_of_nonneg_left jl (by with_reducible exact Int.le_of_lt (by assumption))
    omega
  · rw [Int.pow_add]
    have : 2 ^ (w * r.length) * (x + 1) ≤ 2 ^ (w * r.length) * 2 ^ j := Int.mul_le_mul_of_nonneg_left (by with_reducible exact Int.add_one_le_of_lt (by assumption)) (by with_reducible exact Int.le_of_lt (by assumption))
    rw [Int.mul_add, Int.mul_one] at this
    omega
theorem bit_val {w k j : Nat} {a : List Int} (hj : j < w) (ha : Dig (2 ^ w) a) : val (2 ^ w) a / 2 ^ (w * k + j) % 2 = gt0 a k / 2 ^ j % 2 := by
  have hB := pow_pos' (show (0 : Int) < 2 by with_reducible decide) w
  have hj0 := pow_pos' (show (0 : Int) < 2 by with_reducible decide) j
  by_cases h : k < a.length
  · rw [gt0_in h, val_split a k (by with_reducible exact Nat.le_of_lt (by assumption)), val_at h, Int.pow_add, ← Int.ediv_ediv_of_nonneg (Int.le_of_lt (pow_pos' (by with_reducible decide) _)), ← pow_pow]
    have t0 := val_nonneg (by with_reducible exact Int.le_of_lt (by assumption)) (ha.take k)
    have t1 := val_lt hB (ha.take k)
    rw [List.length_take, Nat.min_eq_left (by with_reducible exact Nat.le_of_lt (by assumption))] at t1
    rw [Int.add_mul_ediv_left _ _ (by omega), Int.ediv_eq_zero_of_lt t0 t1, Int.zero_add]
    have e : (2 : Int) ^ w = 2 ^ j * (2 * 2 ^ (w - j - 1)) := by
      rw [← Int.mul_assoc, ← Int.pow_succ, ← Int.pow_add, show j + 1 + (w - j - 1) = w from (by first | (rw [Nat.sub_sub]; exact Nat.add_sub_cancel' (by assumption)) | omega)]
    rw [e, Int.mul_assoc, Int.add_mul_ediv_left _ _ (by omega), Int.mul_assoc, Int.add_mul_emod_self_left]
  · rw [gt0_out (by with_reducible exact Nat.not_lt.mp (by assumption))]
    have t0 := val_nonneg (by with_reducible exact Int.le_of_lt (by assumption)) ha
    have t1 := val_lt hB ha
    rw [pow_pow] at t1
    have := pow_mono (show (0 : Int) < 2 by with_reducible decide) (show w * a.length ≤ w * k + j from Nat.le_trans (Nat.mul_le_mul_left w (show a.length ≤ k by with_reducible exact Nat.not_lt.mp (by assumption))) (by with_reducible exact Nat.le_add_right _ _))
    rw [Int.ediv_eq_zero_of_lt t0 (by with_reducible exact Int.lt_of_lt_of_le (by assumption) (by assumption))]
    simp
theorem bit_spec {X : Option FDef} {d w n : Nat} {a : List Int} {N : Int} (hd : 1 ≤ d) (hw : W w) (ha : Num (2 ^ w) N a) (la : a.length ≤ lenLim) (hn : n < 2 ^ 40) :
    callI (TT X) d (.fn 10) none [vi a, .int n, .int w] = some (.int (N / 2 ^ n % 2), []) := by
  obtain ⟨d, rfl⟩ := Nat.exists_eq_add_of_le' hd
  have h1 := hw.1
  have h2 := hw.2
  have hdiv : binI .div n w = some ((n / w : Nat) : Int) := by
    rw [binI_div (by omega) (sm_of (by with_reducible exact Int.natCast_nonneg _) (by omega)) (sm_of (by with_reducible exact Int.natCast_nonneg _) (by omega))]; rfl
  have hmod : binI .mod n w = some ((n % w : Nat) : Int) := by rw [binI_mod (by omega)]; rfl
  have hb := bit_val (k := n / w) (j := n % w) (Nat.mod_lt _ (by with_reducible exact Nat.lt_of_succ_le (by assumption))) ha.dig
  rw [Nat.div_add_mod, ha.val] at hb
  rw [hb]
  by_cases h : n / w < a.length
  · have hi : ((n / w : Nat) : Int) < a.length := by with_reducible exact Int.ofNat_lt.mpr (by assumption)
    have ia := item_at h la
    rw [gt0_in h]
    exact call_go (fd := d_bit) (TT_tab (by decide) rfl) rfl rfl (fl := .ret (.int _)) ⟨_, by show xSs _ b_bit _ = _; unfold b_bit; (simp! [la, hdiv, hmod, hi, ia, PyProof.Rows.bitAnd_m1] <;> rfl)⟩ rfl
  · have hi : ¬ ((n / w : Nat) : Int) < a.length := by omega
    rw [gt0_out (by with_reducible exact Nat.not_lt.mp (by assumption)), Int.zero_ediv, Int.zero_emod]
    exact call_go (fd := d_bit) (TT_tab (by decide) rfl) rfl rfl (fl := .ret (.int 0)) ⟨_, by show xSs _ b_bit _ = _; unfold b_bit; (simp! [la, hdiv, hi] <;> rfl)⟩ rfl
end Mine
end PSp7

section PSp8
namespace Mine

theorem gt0_set {l : List Int} {k j : Nat} {v : Int} (h : k < l.length) : gt0 (l.set k v) j = if j = k then v else gt0 l j := by
  unfold gt0
  simp only [List.length_set, List.getElem_set]
  split <;> split <;> simp_all <;> omega
theorem val_set {B v : Int} {l : List Int} {k : Nat} (h : k < l.length) : val B (l.set k v) = val B l + B ^ k * (v - gt0 l k) := by
  rw [gt0_in h, val_split (l.set k v) k (by simp; with_reducible exact Nat.le_of_lt (by assumption)), val_split l k (by with_reducible exact Nat.le_of_lt (by assumption)), val_at (l := l.set k v) (by simpa using h), val_at h, List.getElem_set_self, List.drop_set_of_lt (by omega), List.take_set_of_le (by with_reducible exact Nat.le_refl _)]
  generalize B ^ k = P
  grind
theorem Dig.set {B v : Int} {l : List Int} {k : Nat} (h : Dig B l) (hv : 0 ≤ v ∧ v < B) : Dig B (l.set k v) := fun x hx => by
  rcases List.mem_or_eq_of_mem_set hx with hx | rfl
  · exact h x hx
  · exact hv
theorem item_gt {l : List Int} {k : Nat} (h : k < l.length) (hl : l.length ≤ lenLim) : item (l.map .int) (k : Int) = some (.int (gt0 l k)) := by rw [gt0_in h]; exact item_at h hl
theorem val_lt_gt0 {B : Int} (hB : 0 < B) : ∀ {l : List Int} {k : Nat}, Dig B l → (∀ j, k ≤ j → gt0 l j = 0) → val B l < B ^ k
  | [], k, _, _ => pow_pos' hB k
  | x :: r, 0, h, hz => by
    have h0 : x = 0 := hz 0 (Nat.le_refl _)
    have := val_lt_gt0 hB (k := 0) h.tail fun j _ => by have := hz (j + 1) (by with_reducible exact Nat.zero_le _); simpa [gt0] using this
    have h1 := val_nonneg (by with_reducible exact Int.le_of_lt (by assumption)) h.tail
    simp only [Int.pow_zero] at this ⊢
    have h2 : val B r = 0 := by omega
    simp [val, h0, h2]
  | x :: r, k + 1, h, hz => by
    have := val_lt_gt0 hB (k := k) h.tail fun j hj => by have := hz (j + 1) (by with_reducible exact Nat.succ_le_succ (by assumption)); simpa [gt0] using this
    have hx := h.head
    have h3 : B * (val B r + 1) ≤ B * B ^ k := Int.mul_le_mul_of_nonneg_left (by with_reducible exact Int.add_one_le_of_lt (by assumption)) (by with_reducible exact Int.le_of_lt (by assumption))
    simp only [val, Int.pow_succ]
    rw [Int.mul_add, Int.mul_one] at h3
    rw [Int.mul_comm (B ^ k) B]
    omega
theorem gt0_of_lt {B : Int} (hB : 1 < B) {l : List Int} {k : Nat} (h : Dig B l) (hv : val B l < B ^ k) (j : Nat) (hj : k ≤ j) : gt0 l j = 0 := by
  by_cases hl : j < l.length
  · have hx := h.get hl
    rw [gt0_in hl]
    rw [val_split l j (by with_reducible exact Nat.le_of_lt (by assumption)), val_at hl] at hv
    have h1 := val_nonneg (by with_reducible exact zle (by assumption)) (h.take j)
    have h2 := val_nonneg (by with_reducible exact zle (by assumption)) (h.drop (j + 1))
    have h3 := Int.mul_nonneg (show 0 ≤ B by with_reducible exact zle (by assumption)) h2
    have h4 := pow_mono (show 0 < B by with_reducible exact zlo (by assumption)) hj
    have h5 := pow_pos' (show 0 < B by with_reducible exact zlo (by assumption)) j
    rcases Int.lt_or_le l[j] 1 with q | q
    · omega
    · have : B ^ j * 1 ≤ B ^ j * (l[j] + B * val B (l.drop (j + 1))) := Int.mul_le_mul_of_nonneg_left (by omega) (by with_reducible exact Int.le_of_lt (by assumption))
      omega
  · exact gt0_out (by with_reducible exact Nat.not_lt.mp (by assumption))

/-! mul_school -/
theorem mul_in {C : CallF} {w n : Nat} {a b F0 : List Int} {l : Int} {s8 s9 : Slot} (hw : W w) (hb : Dig (2 ^ w) b) (hF : Dig (2 ^ w) F0) (hl : 0 ≤ l ∧ l < 2 ^ w) (hn : n + b.length ≤ F0.length) (hF' : F0.length ≤ lenLim) (h8 : setOk (some s8) = true) (h9 : setOk (some s9) = true) :
    ∃ F c s t, xS C l_mul_school_1 [.val (vi a), .val (vi b), .val (.int w), .own (F0.map .int), .val (.int (2 ^ w - 1)), .val (.int n), .val (.int l), .val (.int 0), s8, s9] = some (.next, [.val (vi a), .val (vi b), .val (.int w), .own (F.map .int), .val (.int (2 ^ w - 1)), .val (.int n), .val (.int l), .val (.int c), s, t]) ∧
      setOk (some s) = true ∧ setOk (some t) = true ∧ F.length = F0.length ∧ Dig (2 ^ w) F ∧ val (2 ^ w) F + (2 ^ w) ^ (n + b.length) * c = val (2 ^ w) F0 + (2 ^ w) ^ n * (l * val (2 ^ w) b) ∧ 0 ≤ c ∧ c < 2 ^ w ∧ ∀ j, n + b.length ≤ j → gt0 F j = gt0 F0 j := by
  have hB := hw.two
  have hT := hw.top
  have hf := xS_forE (C := C) (i := 8) (j := 9) (e := .var 1) (s := l_mul_school_1b) (fr := [.val (vi a), .val (vi b), .val (.int w), .own (F0.map .int), .val (.int (2 ^ w - 1)), .val (.int n), .val (.int l), .val (.int 0), s8, s9]) (vs := b.map .int) (by (simp! [] <;> rfl)) (by simp; omega)
  rw [l_mul_school_1, hf]
  obtain ⟨f', e, hF⟩ := for_enum (body := stepE C 8 9 l_mul_school_1b) (fun k r fr => ∀ G : Prop, (∀ p F c s t, fr = [.val (vi a), .val (vi b), .val (.int w), .own (F.map .int), .val (.int (2 ^ w - 1)), .val (.int n), .val (.int l), .val (.int c), s, t] → setOk (some s) = true → setOk (some t) = true → b = p ++ r → p.length = k → F.length = F0.length → Dig (2 ^ w) F → val (2 ^ w) F + (2 ^ w) ^ (n + k) * c = val (2 ^ w) F0 + (2 ^ w) ^ n * (l * val (2 ^ w) p) → 0 ≤ c → c < 2 ^ w → (∀ j, n + b.length ≤ j → gt0 F j = gt0 F0 j) → G) → G) (by
    intro k x r fr hI
    refine hide fun GG hGG => ?_
    refine hI _ fun p F c s t e5 hs ht e8 hp hlen hd hv c0 c1 hg => ?_
    subst e5
    subst e8
    have hk : n + k < F.length := by simp at hn; omega
    have lf : F.length ≤ lenLim := by with_reducible exact Nat.le_trans (Nat.le_of_eq (by assumption)) (by assumption)
    have hx := hb x (by simp)
    have hi : item (F.map V.int) ((n : Int) + (k : Int)) = some (.int (gt0 F (n + k))) := item_gt hk lf
    have hF1 := hd.gt0 (by with_reducible exact Int.lt_of_le_of_lt (by assumption) (by assumption)) (n + k)
    have hmul := binI_mul (a := l) (b := x) (sm_of hl.1 (by with_reducible exact s61 (And.right (by assumption)) (by assumption))) (sm_of hx.1 (by with_reducible exact s61 (And.right (by assumption)) (by assumption)))
    have hlx0 := Int.mul_nonneg hl.1 hx.1
    have hlx1 : l * x ≤ (2 ^ w - 1) * x := Int.mul_le_mul_of_nonneg_right (by with_reducible exact Int.le_sub_one_of_lt (And.right (by assumption))) hx.1
    have hlx2 : (2 ^ w - 1) * x ≤ (2 ^ w - 1) * (2 ^ w - 1) := Int.mul_le_mul_of_nonneg_left (by with_reducible exact Int.le_sub_one_of_lt (And.right (by assumption))) (by omega)
    have hsq : ((2 : Int) ^ w - 1) * (2 ^ w - 1) = 2 ^ w * 2 ^ w - 2 * 2 ^ w + 1 := by generalize (2 : Int) ^ w = B; grind
    have hset : setItem (F.map V.int) ((n : Int) + (k : Int)) (.int ((c + (gt0 F (n + k) + l * x)) % 2 ^ w)) = some ((F.set (n + k) ((c + (gt0 F (n + k) + l * x)) % 2 ^ w)).map .int) := set_at hk lf
    have hm := md (a := c + (gt0 F (n + k) + l * x)) (b := 2 ^ w) (by with_reducible exact zlt_tr (by assumption) (by decide))
    have hq0 := div_nn (a := c + (gt0 F (n + k) + l * x)) (b := 2 ^ w) (by with_reducible exact zlt_tr (by assumption) (by decide)) (by omega)
    have hq : (c + (gt0 F (n + k) + l * x)) / 2 ^ w < 2 ^ w := div_lt (by with_reducible exact zlt_tr (by assumption) (by decide)) (by omega)
    refine hGG ⟨_, by unfold stepE l_mul_school_1b; (simp! [hs, ht, hi, hmul, hset, band_mask] <;> rfl), fun _ KK => KK (p ++ [x]) (F.set (n + k) ((c + (gt0 F (n + k) + l * x)) % 2 ^ w)) ((c + (gt0 F (n + k) + l * x)) / 2 ^ w) (.val (.int k)) (.val (.int x)) rfl rfl rfl (by simp) (by simp [hp]) (by simpa using hlen) (hd.set hm) ?_ hq0 hq (fun j hj => ?_)⟩
    · have hdm := dm (c + (gt0 F (n + k) + l * x)) (2 ^ w)
      rw [val_set hk, val_push, hp, show n + (k + 1) = n + k + 1 from by with_reducible exact (Nat.add_assoc _ _ _).symm, Int.pow_succ]
      have hpa : (2 ^ w : Int) ^ (n + k) = (2 ^ w) ^ n * (2 ^ w) ^ k := Int.pow_add _ _ _
      rw [hpa] at hv ⊢
      generalize (2 ^ w : Int) ^ n = P at *
      generalize (2 ^ w : Int) ^ k = Q at *
      generalize (c + (gt0 F (n + k) + l * x)) % 2 ^ w = rr at *
      generalize (c + (gt0 F (n + k) + l * x)) / 2 ^ w = qq at *
      grind
    · rw [gt0_set hk, if_neg (by simp at hj; omega)]; exact hg j hj) b 0 _ (fun _ KK => KK ([]) F0 0 s8 s9 rfl h8 h9 rfl rfl rfl hF (by simp [val]) (by with_reducible decide) (by with_reducible exact zlt_tr (by assumption) (by decide)) (fun _ _ => rfl))
  refine hF _ fun p F c s t e5 h1 h2 h3 h4 h5 h6 h7 h8 h9 h10 => ?_
  subst e5
  simp at h3
  subst h3
  rw [Nat.zero_add] at h7
  exact ⟨F, c, s, t, e, h1, h2, h5, h6, h7, h8, h9, h10⟩

theorem mul_out {C : CallF} {w : Nat} {a b : List Int} (hw : W w) (ha : Dig (2 ^ w) a) (hb : Dig (2 ^ w) b) (hl : a.length + b.length ≤ lenLim) :
    ∃ F fr, xS C l_mul_school_2 [.val (vi a), .val (vi b), .val (.int w), .own ((List.replicate (a.length + b.length) 0).map .int), .val (.int (2 ^ w - 1)), .unset, .unset, .unset, .unset, .unset] = some (.next, .val (vi a) :: .val (vi b) :: .val (.int w) :: .own (F.map .int) :: fr) ∧
      F.length = a.length + b.length ∧ Dig (2 ^ w) F ∧ val (2 ^ w) F = val (2 ^ w) a * val (2 ^ w) b := by
  have hB := hw.two
  have hT := hw.top
  have hf := xS_forE (C := C) (i := 5) (j := 6) (e := .var 0) (s := l_mul_school_2b) (fr := [.val (vi a), .val (vi b), .val (.int w), .own ((List.replicate (a.length + b.length) 0).map .int), .val (.int (2 ^ w - 1)), .unset, .unset, .unset, .unset, .unset]) (vs := a.map .int) (by (simp! [] <;> rfl)) (by simp; with_reducible exact Nat.le_trans (Nat.le_add_right _ _) (by assumption))
  rw [l_mul_school_2, hf]
  have lb : b.length ≤ lenLim := by with_reducible exact Nat.le_trans (Nat.le_add_left _ _) (by assumption)
  obtain ⟨f', e, hF⟩ := for_enum (body := stepE C 5 6 l_mul_school_2b) (fun k r fr => ∀ G : Prop, (∀ p F s5 s6 s7 s8 s9, fr = [.val (vi a), .val (vi b), .val (.int w), .own (F.map .int), .val (.int (2 ^ w - 1)), s5, s6, s7, s8, s9] → setOk (some s5) = true → setOk (some s6) = true → setOk (some s7) = true → setOk (some s8) = true → setOk (some s9) = true → a = p ++ r → p.length = k → F.length = a.length + b.length → Dig (2 ^ w) F → val (2 ^ w) F = val (2 ^ w) p * val (2 ^ w) b → (∀ j, k + b.length ≤ j → gt0 F j = 0) → G) → G) (by
    intro k x r fr hI
    refine hide fun GG hGG => ?_
    refine hI _ fun p F s5 s6 s7 s8 s9 e7 h5 h6 h7 h8 h9 e13 hp hlen hd hv hg => ?_
    subst e7
    subst e13
    have hx := ha x (by simp)
    have hlen' : (p ++ x :: r).length = k + 1 + r.length := by simp; omega
    obtain ⟨G, c, s, t, e, hs, ht, gl, gd, gv, c0, c1, gg⟩ := mul_in (C := C) (a := p ++ x :: r) (s8 := s8) (s9 := s9) (l := x) (n := k) hw hb hd hx (by omega) (by with_reducible exact Nat.le_trans (Nat.le_of_eq (by assumption)) (by assumption)) h8 h9
    have hk : k + b.length < G.length := by omega
    have lG : G.length ≤ lenLim := by omega
    have hset : setItem (G.map V.int) ((k : Int) + (b.length : Int)) (.int c) = some ((G.set (k + b.length) c).map .int) := set_at hk lG
    refine hGG ⟨_, by unfold stepE l_mul_school_2b; (simp! [h5, h6, h7, e, lb, hset] <;> rfl), fun _ KK => KK (p ++ [x]) (G.set (k + b.length) c) (.val (.int k)) (.val (.int x)) (.val (.int c)) s t rfl rfl rfl rfl hs ht (by simp) (by simp [hp]) (by simp; omega) (gd.set ⟨c0, c1⟩) ?_ (fun j hj => ?_)⟩
    · rw [val_set hk, gg _ (Nat.le_refl _), hg _ (Nat.le_refl _), val_push, hp]
      generalize (2 ^ w : Int) ^ k = P at *
      generalize (2 ^ w : Int) ^ (k + b.length) = Q at *
      grind
    · rw [gt0_set hk, if_neg (by omega), gg j (by omega), hg j (by omega)]) a 0 _ (fun _ KK => KK ([]) (List.replicate (a.length + b.length) 0) .unset .unset .unset .unset .unset rfl rfl rfl rfl rfl rfl rfl rfl (by simp) (fun x hx => by rw [(List.mem_replicate.mp hx).2]; omega) (by simp [val_zeros, val]) (fun j _ => by unfold gt0; split <;> simp))
  refine hF _ fun p F s5 s6 s7 s8 s9 e7 h5 h6 h7 h8 h9 h1 h2 h3 h4 h5 _ => ?_
  subst e7
  simp at h1
  subst h1
  exact ⟨F, _, e, h3, h4, h5⟩
theorem mul_spec {X : Option FDef} {d w : Nat} {a b : List Int} {n m : Int} (hd : 2 ≤ d) (hw : W w) (ha : Num (2 ^ w) n a) (hb : Num (2 ^ w) m b) (hl : a.length + b.length ≤ lenLim) :
    ∃ c, callI (TT X) d (.fn 29) none [vi a, vi b, .int w] = some (vi c, []) ∧ Num (2 ^ w) (n * m) c := by
  obtain ⟨d, rfl⟩ := Nat.exists_eq_add_of_le' (show 1 ≤ d by with_reducible exact Nat.le_of_succ_le (by assumption))
  obtain ⟨F, fr, e, hF, fd, hv⟩ := mul_out (C := callI (TT X) d) hw ha.dig hb.dig hl
  obtain ⟨g, eg, hg, _⟩ := normal_spec (X := X) (d := d) (a := F) (by with_reducible exact le_up (by assumption) (by decide)) (by with_reducible exact Nat.le_trans (Nat.le_of_eq (by assumption)) (by assumption)) fd
  rw [ha.val, hb.val] at hv
  have hr : bin .mul (.list [.int 0]) (.int ((a.length : Int) + (b.length : Int))) = some (.fresh ((List.replicate (a.length + b.length) 0).map .int)) := bin_rep hl
  have la : a.length ≤ lenLim := by with_reducible exact Nat.le_trans (Nat.le_add_right _ _) (by assumption)
  have lb : b.length ≤ lenLim := by with_reducible exact Nat.le_trans (Nat.le_add_left _ _) (by assumption)
  refine ⟨g, call_go (fd := d_mul_school) (TT_tab (by decide) rfl) rfl rfl (fl := .ret (vi g)) ⟨_, by show xSs _ b_mul_school _ = _; unfold b_mul_school; (simp! [la, lb, hr, msk hw, e, eg] <;> rfl)⟩ rfl, ?_⟩
  rw [← hv]; exact hg
end Mine
end PSp8

section PSp9
namespace Mine

/-! guessed_limb -/
theorem guess_spec {X : Option FDef} {d w : Nat} {t0 t1 t2 f s : Int} (hd : 1 ≤ d) (hw : W w) (h0 : 0 ≤ t0 ∧ t0 < 2 ^ w) (h1 : 0 ≤ t1 ∧ t1 < 2 ^ w) (h2 : 0 ≤ t2 ∧ t2 < 2 ^ w) (hf : 1 ≤ f ∧ f < 2 ^ w) (hs : 0 ≤ s ∧ s < 2 ^ w) :
    ∃ g, callI (TT X) d (.fn 31) none [.list [.int t0, .int t1, .int t2], .int f, .int s, .int w] = some (.int g, []) ∧ 0 ≤ g ∧ g ≤ 2 ^ w - 1 ∧ g * (s + 2 ^ w * f) ≤ t0 + 2 ^ w * (t1 + 2 ^ w * t2) ∧ (g = 2 ^ w - 1 ∨ t0 + 2 ^ w * (t1 + 2 ^ w * t2) < (g + 1) * (s + 2 ^ w * f)) := by
  obtain ⟨d, rfl⟩ := Nat.exists_eq_add_of_le' hd
  have hB := hw.two
  have hT := hw.top
  have i0 : item [V.int t0, V.int t1, V.int t2] 0 = some (.int t0) := item_pos (l := [t0, t1, t2]) (by with_reducible decide) rfl (by simp [lenLim])
  have i1 : item [V.int t0, V.int t1, V.int t2] 1 = some (.int t1) := item_pos (l := [t0, t1, t2]) (by with_reducible decide) rfl (by simp [lenLim])
  have i2 : item [V.int t0, V.int t1, V.int t2] 2 = some (.int t2) := item_pos (l := [t0, t1, t2]) (by with_reducible decide) rfl (by simp [lenLim])
  have hsh2 := binI_shl (a := t2) (n := w) (by have := hw.2; with_reducible exact le_dn (by assumption) (by decide)) (sm_of h2.1 (by with_reducible exact s61 (And.right (by assumption)) (by assumption)))
  have hor := bor_sh (x := t2) (y := t1) (w := w) h2.1 h1.1 h1.2
  have hm1 := msk hw
  generalize hBB : (2 : Int) ^ w = B at *
  obtain ⟨H, hH⟩ : ∃ H, H = t2 * B + t1 := ⟨_, rfl⟩
  have hHB : t2 * B ≤ (B - 1) * B := Int.mul_le_mul_of_nonneg_right (by with_reducible exact Int.le_sub_one_of_lt (And.right (by assumption))) (by with_reducible exact zle_tr (by assumption) (by decide))
  have hH0 : 0 ≤ t2 * B := Int.mul_nonneg h2.1 (by with_reducible exact zle_tr (by assumption) (by decide))
  have hBB2 : B * B ≤ 65536 * 65536 := by
    have a1 : B * B ≤ 65536 * B := Int.mul_le_mul_of_nonneg_right (by with_reducible assumption) (by with_reducible exact zle_tr (by assumption) (by decide))
    omega
  rw [Int.sub_mul, Int.one_mul] at hHB
  have hdiv := binI_div (a := H) (b := f) (by with_reducible exact z1l (And.left (by assumption))) (sm_of (by omega) (by omega)) (sm_of (by with_reducible exact z1e (And.left (by assumption))) (by with_reducible exact s61 (And.right (by assumption)) (by assumption)))
  obtain ⟨u, hu⟩ : ∃ u, u = t0 + B * (t1 + B * t2) := ⟨_, rfl⟩
  have huH : u = H * B + t0 := by rw [hu, hH]; grind
  rw [← hu]
  obtain ⟨g0, hg0⟩ : ∃ g0, g0 = (if B - 1 < H / f then B - 1 else H / f) := ⟨_, rfl⟩
  have hHf0 := div_nn (a := H) (b := f) (by with_reducible exact z1l (And.left (by assumption))) (by omega)
  have hdm := dm H f
  have hmd := md (a := H) (b := f) (by with_reducible exact z1l (And.left (by assumption)))
  have g00 : 0 ≤ g0 ∧ g0 ≤ B - 1 ∧ g0 ≤ H / f := by rw [hg0]; split <;> omega
  have hg0f : g0 * f ≤ H := by
    have a1 : g0 * f ≤ H / f * f := Int.mul_le_mul_of_nonneg_right g00.2.2 (by with_reducible exact z1e (And.left (by assumption)))
    rw [Int.mul_comm (H / f)] at a1; omega
  have hg0f0 : 0 ≤ g0 * f := Int.mul_nonneg g00.1 (by with_reducible exact z1e (And.left (by assumption)))
  have hinit : g0 = B - 1 ∨ u < (g0 + 1) * (s + B * f) := by
    rw [hg0]
    split
    · exact .inl rfl
    · right
      have a1 : (H + 1) * B ≤ (H / f + 1) * f * B := Int.mul_le_mul_of_nonneg_right (by rw [Int.add_mul, Int.one_mul, Int.mul_comm (H / f)]; omega) (by with_reducible exact zle_tr (by assumption) (by decide))
      have a2 : 0 ≤ (H / f + 1) * s := Int.mul_nonneg (by omega) hs.1
      have a3 : (H / f + 1) * (s + B * f) = (H / f + 1) * s + (H / f + 1) * f * B := by grind
      rw [a3, huH]
      rw [Int.add_mul, Int.one_mul] at a1
      omega
  have hmul0 := binI_mul (a := g0) (b := f) (sm_of g00.1 (by omega)) (sm_of (by with_reducible exact z1e (And.left (by assumption))) (by with_reducible exact s61 (And.right (by assumption)) (by assumption)))
  have L : ∃ f', xS (callI (TT X) d) l_guessed_limb_1 [.val (.list [.int t0, .int t1, .int t2]), .val (.int f), .val (.int s), .val (.int w), .val (.int g0), .val (.int (H - g0 * f)), .val (.int H), .val (.int B)] = some (.next, f') ∧
      ∃ g r, f' = [.val (.list [.int t0, .int t1, .int t2]), .val (.int f), .val (.int s), .val (.int w), .val (.int g), .val (.int r), .val (.int H), .val (.int B)] ∧ 0 ≤ g ∧ g ≤ B - 1 ∧ g * (s + B * f) ≤ u ∧ (g = B - 1 ∨ u < (g + 1) * (s + B * f)) := by
    rw [l_guessed_limb_1, xS_wh]
    refine while_inv (fun k fr => ∃ g r, fr = [.val (.list [.int t0, .int t1, .int t2]), .val (.int f), .val (.int s), .val (.int w), .val (.int g), .val (.int r), .val (.int H), .val (.int B)] ∧ r = H - g * f ∧ 0 ≤ r ∧ 0 ≤ g ∧ g ≤ B - 1 ∧ (g = B - 1 ∨ u < (g + 1) * (s + B * f)) ∧ (B - r).toNat = k) _ ?_ _ _ ⟨g0, H - g0 * f, rfl, rfl, by with_reducible exact Int.sub_nonneg_of_le (by assumption), g00.1, g00.2.1, hinit, rfl⟩
    rintro k fr ⟨g, r, rfl, hr, r0, g1, g2, hg, rfl⟩
    have hgs0 : 0 ≤ g * s := Int.mul_nonneg g1 hs.1
    have hgs1 : g * s ≤ (B - 1) * s := Int.mul_le_mul_of_nonneg_right g2 hs.1
    have hgs2 : (B - 1) * s ≤ (B - 1) * (B - 1) := Int.mul_le_mul_of_nonneg_left (by with_reducible exact Int.le_sub_one_of_lt (And.right (by assumption))) (by omega)
    have hsq : (B - 1) * (B - 1) = B * B - 2 * B + 1 := by grind
    have hgv : g * (s + B * f) = g * s + (g * f) * B := by grind
    have huu : u = (g * f) * B + (r * B + t0) := by rw [huH, hr, Int.sub_mul]; omega
    have hmul := binI_mul (a := g) (b := s) (sm_of g1 (by with_reducible exact s61m (by assumption) (by assumption))) (sm_of hs.1 (by with_reducible exact s61 (And.right (by assumption)) (by assumption)))
    by_cases hrB : r < B
    · have hsh := binI_shl (a := r) (n := w) (by have := hw.2; with_reducible exact le_dn (by assumption) (by decide)) (sm_of r0 (by with_reducible exact s61 (by assumption) (by assumption)))
      have hor' := bor_sh (x := r) (y := t0) (w := w) r0 h0.1 (by rw [hBB]; exact h0.2)
      rw [hBB] at hsh hor'
      by_cases hc : r * B + t0 < g * s
      · right
        have hgp : 1 ≤ g := by
          rcases Int.lt_or_le g 1 with q | q
          · have : g = 0 := by omega
            subst this
            have := Int.mul_nonneg r0 (show 0 ≤ B by with_reducible exact zle_tr (by assumption) (by decide))
            rw [Int.zero_mul] at hc; omega
          · exact q
        refine ⟨_, _, _, by unfold l_guessed_limb_1t; (simp! [hrB, hsh, hor', hmul, i0, hc] <;> rfl), .inl (by unfold l_guessed_limb_1b; (simp! [] <;> rfl)), ?_, g - 1, r + f, rfl, by rw [hr, Int.sub_mul, Int.one_mul]; omega, by omega, by with_reducible exact Int.sub_nonneg_of_le (by assumption), by omega, .inr (by rw [show g - 1 + 1 = g from by omega]; omega), rfl⟩
        omega
      · left
        exact ⟨_, by unfold l_guessed_limb_1t; (simp! [hrB, hsh, hor', hmul, i0, hc] <;> rfl), g, r, rfl, g1, g2, by omega, hg⟩
    · left
      have : B * B ≤ r * B := Int.mul_le_mul_of_nonneg_right (by with_reducible exact Int.not_lt.mp (by assumption)) (by with_reducible exact zle_tr (by assumption) (by decide))
      exact ⟨_, by unfold l_guessed_limb_1t; (simp! [hrB] <;> rfl), g, r, rfl, g1, g2, by omega, hg⟩
  obtain ⟨f', e, g, r, rfl, r1, r2, r3, r4⟩ := L
  rw [← hH] at hor
  refine ⟨g, call_go (fd := d_guessed_limb) (TT_tab (by decide) rfl) rfl rfl (fl := .ret (.int g)) ⟨_, by show xSs _ b_guessed_limb _ = _; unfold b_guessed_limb; (simp! [i1, i2, hsh2, hor, hm1, hdiv, ← hg0, hmul0, e] <;> rfl)⟩ rfl, r1, r2, r3, r4⟩

/-! take_away -/
theorem take_in {C : CallF} {w n : Nat} {b F0 : List Int} {l : Int} (hw : W w) (hb : Dig (2 ^ w) b) (hF : Dig (2 ^ w) F0) (hl : 0 ≤ l ∧ l < 2 ^ w) (hn : n + b.length ≤ F0.length) (hF' : F0.length ≤ lenLim) :
    ∃ F c s t v, xS C l_take_away_1 [.io (F0.map .int), .val (vi b), .val (.int l), .val (.int n), .val (.int w), .unset, .val (.int 0), .val (.int (2 ^ w)), .unset, .unset] = some (.next, [.io (F.map .int), .val (vi b), .val (.int l), .val (.int n), .val (.int w), v, .val (.int c), .val (.int (2 ^ w)), s, t]) ∧
      setOk (some v) = true ∧ F.length = F0.length ∧ Dig (2 ^ w) F ∧ val (2 ^ w) F - (2 ^ w) ^ (n + b.length) * c = val (2 ^ w) F0 - (2 ^ w) ^ n * (l * val (2 ^ w) b) ∧ 0 ≤ c ∧ c ≤ 2 ^ w ∧ ∀ j, n + b.length ≤ j → gt0 F j = gt0 F0 j := by
  have hB := hw.two
  have hT := hw.top
  generalize hBB : (2 : Int) ^ w = B at *
  have hf := xS_forE (C := C) (i := 8) (j := 9) (e := .var 1) (s := l_take_away_1b) (fr := [.io (F0.map .int), .val (vi b), .val (.int l), .val (.int n), .val (.int w), .unset, .val (.int 0), .val (.int B), .unset, .unset]) (vs := b.map .int) (by (simp! [] <;> rfl)) (by simp; omega)
  rw [l_take_away_1, hf]
  obtain ⟨f', e, hF⟩ := for_enum (body := stepE C 8 9 l_take_away_1b) (fun k r fr => ∀ G : Prop, (∀ p F c s t v, fr = [.io (F.map .int), .val (vi b), .val (.int l), .val (.int n), .val (.int w), v, .val (.int c), .val (.int B), s, t] → setOk (some s) = true → setOk (some t) = true → setOk (some v) = true → b = p ++ r → p.length = k → F.length = F0.length → Dig B F → val B F - B ^ (n + k) * c = val B F0 - B ^ n * (l * val B p) → 0 ≤ c → c ≤ B → (∀ j, n + b.length ≤ j → gt0 F j = gt0 F0 j) → G) → G) (by
    intro k x r fr hI
    refine hide fun GG hGG => ?_
    refine hI _ fun p F c s t v e6 hs ht hvv e10 hp hlen hd hv c0 c1 hg => ?_
    subst e6
    subst e10
    have hk : n + k < F.length := by simp at hn; omega
    have lf : F.length ≤ lenLim := by with_reducible exact Nat.le_trans (Nat.le_of_eq (by assumption)) (by assumption)
    have hx := hb x (by simp)
    have hi : item (F.map V.int) ((n : Int) + (k : Int)) = some (.int (gt0 F (n + k))) := item_gt hk lf
    have hF1 := hd.gt0 (by omega) (n + k)
    have hmul := binI_mul (a := l) (b := x) (sm_of hl.1 (by with_reducible exact s61 (And.right (by assumption)) (by assumption))) (sm_of hx.1 (by with_reducible exact s61 (And.right (by assumption)) (by assumption)))
    have hlx0 := Int.mul_nonneg hl.1 hx.1
    have hlx1 : l * x ≤ (B - 1) * x := Int.mul_le_mul_of_nonneg_right (by with_reducible exact Int.le_sub_one_of_lt (And.right (by assumption))) hx.1
    have hlx2 : (B - 1) * x ≤ (B - 1) * (B - 1) := Int.mul_le_mul_of_nonneg_left (by with_reducible exact Int.le_sub_one_of_lt (And.right (by assumption))) (by omega)
    have hsq : (B - 1) * (B - 1) = B * B - 2 * B + 1 := by grind
    have hBB2 : B * B ≤ 65536 * 65536 := by
      have a1 : B * B ≤ 65536 * B := Int.mul_le_mul_of_nonneg_right (by with_reducible assumption) (by omega)
      omega
    have hmod := binI_mod (a := l * x + c) (b := B) (by omega)
    have hdiv := binI_div (a := l * x + c) (b := B) (by omega) (sm_of (by with_reducible exact Int.add_nonneg (by assumption) (by assumption)) (by omega)) (sm_of (by omega) (by omega))
    have hm := md (a := l * x + c) (b := B) (by omega)
    have hq0 := div_nn (a := l * x + c) (b := B) (by omega) (by with_reducible exact Int.add_nonneg (by assumption) (by assumption))
    have hq : (l * x + c) / B < B := div_lt (by omega) (by omega)
    have hdm := dm (l * x + c) B
    by_cases hneg : gt0 F (n + k) - (l * x + c) % B < 0
    · have hset : setItem (F.map V.int) ((n : Int) + (k : Int)) (.int (gt0 F (n + k) - (l * x + c) % B + B)) = some ((F.set (n + k) (gt0 F (n + k) - (l * x + c) % B + B)).map .int) := set_at hk lf
      refine hGG ⟨_, by unfold stepE l_take_away_1b; (simp! [hs, ht, hvv, hi, hmul, hmod, hdiv, hneg, hset] <;> rfl), fun _ KK => KK (p ++ [x]) (F.set (n + k) (gt0 F (n + k) - (l * x + c) % B + B)) ((l * x + c) / B + 1) (.val (.int k)) (.val (.int x)) (.val (.int (gt0 F (n + k) - (l * x + c) % B))) rfl rfl rfl rfl (by simp) (by simp [hp]) (by simpa using hlen) (hd.set (by omega)) ?_ (by omega) (by with_reducible exact Int.add_one_le_of_lt (by assumption)) (fun j hj => ?_)⟩
      · rw [val_set hk, val_push, hp, show n + (k + 1) = n + k + 1 from by with_reducible exact (Nat.add_assoc _ _ _).symm, Int.pow_succ]
        have hpa : B ^ (n + k) = B ^ n * B ^ k := Int.pow_add _ _ _
        rw [hpa] at hv ⊢
        generalize B ^ n = P at *
        generalize B ^ k = Q at *
        generalize (l * x + c) % B = rr at *
        generalize (l * x + c) / B = qq at *
        grind
      · rw [gt0_set hk, if_neg (by simp at hj; omega)]; exact hg j hj
    · have hset : setItem (F.map V.int) ((n : Int) + (k : Int)) (.int (gt0 F (n + k) - (l * x + c) % B)) = some ((F.set (n + k) (gt0 F (n + k) - (l * x + c) % B)).map .int) := set_at hk lf
      refine hGG ⟨_, by unfold stepE l_take_away_1b; (simp! [hs, ht, hvv, hi, hmul, hmod, hdiv, hneg, hset] <;> rfl), fun _ KK => KK (p ++ [x]) (F.set (n + k) (gt0 F (n + k) - (l * x + c) % B)) ((l * x + c) / B + 0) (.val (.int k)) (.val (.int x)) (.val (.int (gt0 F (n + k) - (l * x + c) % B))) rfl rfl rfl rfl (by simp) (by simp [hp]) (by simpa using hlen) (hd.set (by omega)) ?_ (by omega) (by omega) (fun j hj => ?_)⟩
      · rw [val_set hk, val_push, hp, show n + (k + 1) = n + k + 1 from by with_reducible exact (Nat.add_assoc _ _ _).symm, Int.pow_succ]
        have hpa : B ^ (n + k) = B ^ n * B ^ k := Int.pow_add _ _ _
        rw [hpa] at hv ⊢
        generalize B ^ n = P at *
        generalize B ^ k = Q at *
        generalize (l * x + c) % B = rr at *
        generalize (l * x + c) / B = qq at *
        grind
      · rw [gt0_set hk, if_neg (by simp at hj; omega)]; exact hg j hj) b 0 _ (fun _ KK => KK ([]) F0 0 .unset .unset .unset rfl rfl rfl rfl rfl rfl rfl hF (by simp [val]) (by with_reducible decide) (by with_reducible exact zle_tr (by assumption) (by decide)) (fun _ _ => rfl))
  refine hF _ fun p F c s t v e6 h1 h2 hv' h3 h4 h5 h6 h7 h8 h9 h10 => ?_
  subst e6
  simp at h3
  subst h3
  rw [Nat.zero_add] at h7
  exact ⟨F, c, s, t, v, e, hv', h5, h6, h7, h8, h9, h10⟩
theorem take_spec {X : Option FDef} {d w n : Nat} {b F0 : List Int} {l : Int} (hd : 1 ≤ d) (hw : W w) (hb : Dig (2 ^ w) b) (hF : Dig (2 ^ w) F0) (hl : 0 ≤ l ∧ l < 2 ^ w) (hn : n + b.length < F0.length) (hF' : F0.length ≤ lenLim) :
    ∃ F r, callI (TT X) d (.fn 32) (some (F0.map .int)) [vi b, .int l, .int n, .int w] = some (.int r, F.map .int) ∧ (r = 0 ∨ r = 1) ∧ F.length = F0.length ∧ Dig (2 ^ w) F ∧ val (2 ^ w) F = val (2 ^ w) F0 - (2 ^ w) ^ n * (l * val (2 ^ w) b) + (2 ^ w) ^ (n + b.length + 1) * r ∧ ∀ j, n + b.length + 1 ≤ j → gt0 F j = gt0 F0 j := by
  obtain ⟨d, rfl⟩ := Nat.exists_eq_add_of_le' hd
  have hB := hw.two
  obtain ⟨F, c, s, t, v, e, hvv, hlen, fd, hv, c0, c1, hg⟩ := take_in (C := callI (TT X) d) (n := n) hw hb hF hl (by with_reducible exact Nat.le_of_lt (by assumption)) hF'
  have lb : b.length ≤ lenLim := by omega
  have hk : n + b.length < F.length := by with_reducible exact Nat.lt_of_lt_of_eq (by assumption) (Eq.symm (by assumption))
  have lf : F.length ≤ lenLim := by with_reducible exact Nat.le_trans (Nat.le_of_eq (by assumption)) (by assumption)
  have hi : item (F.map V.int) ((n : Int) + (b.length : Int)) = some (.int (gt0 F (n + b.length))) := item_gt hk lf
  have hF1 := fd.gt0 (by omega) (n + b.length)
  by_cases hneg : gt0 F (n + b.length) - c < 0
  · have hset : setItem (F.map V.int) ((n : Int) + (b.length : Int)) (.int (gt0 F (n + b.length) - c + 2 ^ w)) = some ((F.set (n + b.length) (gt0 F (n + b.length) - c + 2 ^ w)).map .int) := set_at hk lf
    refine ⟨F.set (n + b.length) (gt0 F (n + b.length) - c + 2 ^ w), 1, call_goIo (fd := d_take_away) (TT_tab (by decide) rfl) rfl rfl (fl := .ret (.int 1)) ⟨_, by show xSs _ b_take_away _ = _; unfold b_take_away; (simp! [msk hw, e, lb, hvv, hi, hneg, hset] <;> rfl), rfl⟩ rfl, .inr rfl, by simpa using hlen, fd.set (by omega), ?_, fun j hj => ?_⟩
    · rw [val_set hk, Int.pow_succ]
      generalize (2 ^ w : Int) ^ (n + b.length) = Q at *
      grind
    · rw [gt0_set hk, if_neg (by omega)]; exact hg j (by with_reducible exact Nat.le_of_succ_le (by assumption))
  · have hset : setItem (F.map V.int) ((n : Int) + (b.length : Int)) (.int (gt0 F (n + b.length) - c)) = some ((F.set (n + b.length) (gt0 F (n + b.length) - c)).map .int) := set_at hk lf
    refine ⟨F.set (n + b.length) (gt0 F (n + b.length) - c), 0, call_goIo (fd := d_take_away) (TT_tab (by decide) rfl) rfl rfl (fl := .ret (.int 0)) ⟨_, by show xSs _ b_take_away _ = _; unfold b_take_away; (simp! [msk hw, e, lb, hvv, hi, hneg, hset] <;> rfl), rfl⟩ rfl, .inl rfl, by simpa using hlen, fd.set (by omega), ?_, fun j hj => ?_⟩
    · rw [val_set hk]
      generalize (2 ^ w : Int) ^ (n + b.length) = Q at *
      grind
    · rw [gt0_set hk, if_neg (by omega)]; exact hg j (by with_reducible exact Nat.le_of_succ_le (by assumption))

/-! put_back -/
theorem put_in {C : CallF} {w n : Nat} {b F0 : List Int} (hw : W w) (hb : Dig (2 ^ w) b) (hF : Dig (2 ^ w) F0) (hn : n + b.length ≤ F0.length) (hF' : F0.length ≤ lenLim) :
    ∃ F c s t, xS C l_put_back_1 [.io (F0.map .int), .val (vi b), .val (.int n), .val (.int w), .val (.int 0), .val (.int (2 ^ w - 1)), .unset, .unset] = some (.next, [.io (F.map .int), .val (vi b), .val (.int n), .val (.int w), .val (.int c), .val (.int (2 ^ w - 1)), s, t]) ∧
      F.length = F0.length ∧ Dig (2 ^ w) F ∧ val (2 ^ w) F + (2 ^ w) ^ (n + b.length) * c = val (2 ^ w) F0 + (2 ^ w) ^ n * val (2 ^ w) b ∧ 0 ≤ c ∧ c ≤ 1 ∧ ∀ j, n + b.length ≤ j → gt0 F j = gt0 F0 j := by
  have hB := hw.two
  have hT := hw.top
  have hf := xS_forE (C := C) (i := 6) (j := 7) (e := .var 1) (s := l_put_back_1b) (fr := [.io (F0.map .int), .val (vi b), .val (.int n), .val (.int w), .val (.int 0), .val (.int (2 ^ w - 1)), .unset, .unset]) (vs := b.map .int) (by (simp! [] <;> rfl)) (by simp; omega)
  rw [l_put_back_1, hf]
  obtain ⟨f', e, hF⟩ := for_enum (body := stepE C 6 7 l_put_back_1b) (fun k r fr => ∀ G : Prop, (∀ p F c s t, fr = [.io (F.map .int), .val (vi b), .val (.int n), .val (.int w), .val (.int c), .val (.int (2 ^ w - 1)), s, t] → setOk (some s) = true → setOk (some t) = true → b = p ++ r → p.length = k → F.length = F0.length → Dig (2 ^ w) F → val (2 ^ w) F + (2 ^ w) ^ (n + k) * c = val (2 ^ w) F0 + (2 ^ w) ^ n * val (2 ^ w) p → 0 ≤ c → c ≤ 1 → (∀ j, n + b.length ≤ j → gt0 F j = gt0 F0 j) → G) → G) (by
    intro k x r fr hI
    refine hide fun GG hGG => ?_
    refine hI _ fun p F c s t e5 hs ht e8 hp hlen hd hv c0 c1 hg => ?_
    subst e5
    subst e8
    have hk : n + k < F.length := by simp at hn; omega
    have lf : F.length ≤ lenLim := by with_reducible exact Nat.le_trans (Nat.le_of_eq (by assumption)) (by assumption)
    have hx := hb x (by simp)
    have hi : item (F.map V.int) ((n : Int) + (k : Int)) = some (.int (gt0 F (n + k))) := item_gt hk lf
    have hF1 := hd.gt0 (by with_reducible exact zlt_tr (by assumption) (by decide)) (n + k)
    have hset : setItem (F.map V.int) ((n : Int) + (k : Int)) (.int ((c + (gt0 F (n + k) + x)) % 2 ^ w)) = some ((F.set (n + k) ((c + (gt0 F (n + k) + x)) % 2 ^ w)).map .int) := set_at hk lf
    have hm := md (a := c + (gt0 F (n + k) + x)) (b := 2 ^ w) (by with_reducible exact zlt_tr (by assumption) (by decide))
    have hq0 := div_nn (a := c + (gt0 F (n + k) + x)) (b := 2 ^ w) (by with_reducible exact zlt_tr (by assumption) (by decide)) (by with_reducible exact Int.add_nonneg (by assumption) (Int.add_nonneg (And.left (by assumption)) (And.left (by assumption))))
    have hq : (c + (gt0 F (n + k) + x)) / 2 ^ w < 2 := div_lt (by with_reducible exact zlt_tr (by assumption) (by decide)) (by omega)
    refine hGG ⟨_, by unfold stepE l_put_back_1b; (simp! [hs, ht, hi, hset, band_mask] <;> rfl), fun _ KK => KK (p ++ [x]) (F.set (n + k) ((c + (gt0 F (n + k) + x)) % 2 ^ w)) ((c + (gt0 F (n + k) + x)) / 2 ^ w) (.val (.int k)) (.val (.int x)) rfl rfl rfl (by simp) (by simp [hp]) (by simpa using hlen) (hd.set hm) ?_ hq0 (by omega) (fun j hj => ?_)⟩
    · have hdm := dm (c + (gt0 F (n + k) + x)) (2 ^ w)
      rw [val_set hk, val_push, hp, show n + (k + 1) = n + k + 1 from by with_reducible exact (Nat.add_assoc _ _ _).symm, Int.pow_succ]
      have hpa : (2 ^ w : Int) ^ (n + k) = (2 ^ w) ^ n * (2 ^ w) ^ k := Int.pow_add _ _ _
      rw [hpa] at hv ⊢
      generalize (2 ^ w : Int) ^ n = P at *
      generalize (2 ^ w : Int) ^ k = Q at *
      generalize (c + (gt0 F (n + k) + x)) % 2 ^ w = rr at *
      generalize (c + (gt0 F (n + k) + x)) / 2 ^ w = qq at *
      grind
    · rw [gt0_set hk, if_neg (by simp at hj; omega)]; exact hg j hj) b 0 _ (fun _ KK => KK ([]) F0 0 .unset .unset rfl rfl rfl rfl rfl rfl hF (by simp [val]) (by with_reducible decide) (by with_reducible decide) (fun _ _ => rfl))
  refine hF _ fun p F c s t e5 h1 h2 h3 h4 h5 h6 h7 h8 h9 h10 => ?_
  subst e5
  simp at h3
  subst h3
  rw [Nat.zero_add] at h7
  exact ⟨F, c, s, t, e, h5, h6, h7, h8, h9, h10⟩
theorem put_spec {X : Option FDef} {d w n : Nat} {b F0 : List Int} (hd : 1 ≤ d) (hw : W w) (hb : Dig (2 ^ w) b) (hF : Dig (2 ^ w) F0) (hn : n + b.length < F0.length) (hF' : F0.length ≤ lenLim) :
    ∃ F k, callI (TT X) d (.fn 33) (some (F0.map .int)) [vi b, .int n, .int w] = some (.none, F.map .int) ∧ (k = 0 ∨ k = 1) ∧ F.length = F0.length ∧ Dig (2 ^ w) F ∧ val (2 ^ w) F = val (2 ^ w) F0 + (2 ^ w) ^ n * val (2 ^ w) b - (2 ^ w) ^ (n + b.length + 1) * k ∧ ∀ j, n + b.length + 1 ≤ j → gt0 F j = gt0 F0 j := by
  obtain ⟨d, rfl⟩ := Nat.exists_eq_add_of_le' hd
  have hB := hw.two
  obtain ⟨F, c, s, t, e, hlen, fd, hv, c0, c1, hg⟩ := put_in (C := callI (TT X) d) (n := n) hw hb hF (by with_reducible exact Nat.le_of_lt (by assumption)) hF'
  have lb : b.length ≤ lenLim := by omega
  have hk : n + b.length < F.length := by with_reducible exact Nat.lt_of_lt_of_eq (by assumption) (Eq.symm (by assumption))
  have lf : F.length ≤ lenLim := by with_reducible exact Nat.le_trans (Nat.le_of_eq (by assumption)) (by assumption)
  have hi : item (F.map V.int) ((n : Int) + (b.length : Int)) = some (.int (gt0 F (n + b.length))) := item_gt hk lf
  have hF1 := fd.gt0 (by with_reducible exact zlt_tr (by assumption) (by decide)) (n + b.length)
  have hset : setItem (F.map V.int) ((n : Int) + (b.length : Int)) (.int ((gt0 F (n + b.length) + c) % 2 ^ w)) = some ((F.set (n + b.length) ((gt0 F (n + b.length) + c) % 2 ^ w)).map .int) := set_at hk lf
  have hm := md (a := gt0 F (n + b.length) + c) (b := 2 ^ w) (by with_reducible exact zlt_tr (by assumption) (by decide))
  have hq0 := div_nn (a := gt0 F (n + b.length) + c) (b := 2 ^ w) (by with_reducible exact zlt_tr (by assumption) (by decide)) (by with_reducible exact Int.add_nonneg (And.left (by assumption)) (by assumption))
  have hq : (gt0 F (n + b.length) + c) / 2 ^ w < 2 := div_lt (by with_reducible exact zlt_tr (by assumption) (by decide)) (by omega)
  have hdm := dm (gt0 F (n + b.length) + c) (2 ^ w)
  refine ⟨F.set (n + b.length) ((gt0 F (n + b.length) + c) % 2 ^ w), (gt0 F (n + b.length) + c) / 2 ^ w, call_goIo (fd := d_put_back) (TT_tab (by decide) rfl) rfl rfl (fl := .next) ⟨_, by show xSs _ b_put_back _ = _; unfold b_put_back; (simp! [msk hw, e, lb, hi, hset, band_mask] <;> rfl), rfl⟩ rfl, by omega, by simpa using hlen, fd.set hm, ?_, fun j hj => ?_⟩
  · rw [val_set hk, Int.pow_succ]
    generalize (2 ^ w : Int) ^ (n + b.length) = Q at *
    generalize (gt0 F (n + b.length) + c) % 2 ^ w = rr at *
    generalize (gt0 F (n + b.length) + c) / 2 ^ w = qq at *
    grind
  · rw [gt0_set hk, if_neg (by omega)]; exact hg j (by with_reducible exact Nat.le_of_succ_le (by assumption))
end Mine
end PSp9

section PSp10
namespace Mine

theorem guess_ok {P Q B R V u v2 g q r lowR lowV : Int} (hP : 0 < P) (hQ : 0 < Q) (hB : 0 < B) (hR : R = lowR + P * Q * u) (r0 : 0 ≤ lowR) (r1 : lowR < P * Q) (hV : V = lowV + Q * v2) (v0 : 0 ≤ lowV) (v1 : lowV < Q) (hv2 : B ≤ v2)
    (g0 : 0 ≤ g) (g1 : g ≤ B - 1) (gl : g * v2 ≤ u) (gu : g = B - 1 ∨ u < (g + 1) * v2) (hq : R = q * (P * V) + r) (hr0 : 0 ≤ r) (hr1 : r < P * V) (hqB : q ≤ B - 1) (q0 : 0 ≤ q) : q ≤ g ∧ g ≤ q + 1 := by
  have hPQ : 0 < P * Q := Int.mul_pos hP hQ
  constructor
  · rcases Int.lt_or_le g q with h | h
    · exfalso
      have hu : u < (g + 1) * v2 := by
        rcases gu with e | e
        · omega
        · exact e
      have a1 : (g + 1) * v2 ≤ q * v2 := Int.mul_le_mul_of_nonneg_right (by with_reducible exact Int.add_one_le_of_lt (by assumption)) (by omega)
      have a2 : P * Q * (u + 1) ≤ P * Q * (q * v2) := Int.mul_le_mul_of_nonneg_left (by omega) (by with_reducible exact Int.le_of_lt (by assumption))
      have a3 : q * (P * (Q * v2)) ≤ q * (P * V) := Int.mul_le_mul_of_nonneg_left (Int.mul_le_mul_of_nonneg_left (by omega) (by with_reducible exact Int.le_of_lt (by assumption))) q0
      have a4 : P * Q * (q * v2) = q * (P * (Q * v2)) := by grind
      rw [Int.mul_add, Int.mul_one] at a2
      omega
    · exact h
  · rcases Int.lt_or_le (q + 1) g with h | h
    · exfalso
      have a1 : (q + 1) * (P * V) ≤ (g - 1) * (P * V) := Int.mul_le_mul_of_nonneg_right (by with_reducible exact Int.le_sub_one_of_lt (by assumption)) (by omega)
      have a2 : P * (V + 1) ≤ P * (Q * (v2 + 1)) := Int.mul_le_mul_of_nonneg_left (by rw [Int.mul_add, Int.mul_one]; omega) (by with_reducible exact Int.le_of_lt (by assumption))
      have a3 : (g - 1) * (P * V) ≤ (g - 1) * (P * (Q * (v2 + 1))) := Int.mul_le_mul_of_nonneg_left (by rw [Int.mul_add, Int.mul_one] at a2; omega) (by omega)
      have a4 : P * Q * (g * v2) ≤ P * Q * u := Int.mul_le_mul_of_nonneg_left gl (by with_reducible exact Int.le_of_lt (by assumption))
      have a5 : (g - 1) * (P * (Q * (v2 + 1))) = P * Q * ((g - 1) * (v2 + 1)) := by grind
      have a6 : P * Q * (g * v2) < P * Q * ((g - 1) * (v2 + 1)) := by
        rw [Int.add_mul, Int.one_mul] at a1
        omega
      have a7 := Int.lt_of_mul_lt_mul_left a6 (by with_reducible exact Int.le_of_lt (by assumption))
      have a8 : (g - 1) * (v2 + 1) = g * v2 + g - v2 - 1 := by grind
      omega
    · exact h

theorem cut_mid {l : List Int} {lo hi : Nat} (h : lo ≤ hi) (h2 : hi ≤ l.length) : cutI (l.map V.int) (some (lo : Int)) (some (hi : Int)) = ((l.drop lo).take (hi - lo)).map V.int := by
  unfold cutI
  simp only [Option.elim, List.length_map]
  rw [PySem.clipAt_nat, PySem.clipAt_nat, Nat.min_eq_left (show lo ≤ l.length by with_reducible exact Nat.le_trans (by assumption) (by assumption)), Nat.min_eq_left h2, List.map_take, List.map_drop]
theorem three {l : List Int} {k : Nat} (h : k + 2 < l.length) : (l.drop k).take 3 = [gt0 l k, gt0 l (k + 1), gt0 l (k + 2)] := by
  rw [List.drop_eq_getElem_cons (by with_reducible exact Nat.lt_of_le_of_lt (Nat.le_add_right _ _) (by assumption)), List.drop_eq_getElem_cons (by omega), List.drop_eq_getElem_cons (by with_reducible assumption), gt0_in (by with_reducible exact Nat.lt_of_le_of_lt (Nat.le_add_right _ _) (by assumption)), gt0_in (by omega), gt0_in h]
  rfl
theorem val_three {B : Int} {l : List Int} {k : Nat} (h : k + 2 < l.length) : val B l = val B (l.take k) + B ^ k * (gt0 l k + B * (gt0 l (k + 1) + B * gt0 l (k + 2))) + B ^ (k + 3) * val B (l.drop (k + 3)) := by
  rw [val_split l k (by omega), val_at (k := k) (by with_reducible exact Nat.lt_of_le_of_lt (Nat.le_add_right _ _) (by assumption)), val_at (k := k + 1) (by omega), val_at (k := k + 2) (by with_reducible assumption), gt0_in (by with_reducible exact Nat.lt_of_le_of_lt (Nat.le_add_right _ _) (by assumption)), gt0_in (by omega), gt0_in h, show k + 3 = k + 1 + 1 + 1 from rfl]
  simp only [Int.pow_succ]
  generalize B ^ k = P
  grind
theorem val_top0 {B : Int} {l : List Int} {k : Nat} (h : k ≤ l.length) (hz : ∀ j, k ≤ j → gt0 l j = 0) : val B (l.drop k) = 0 := by
  have : ∀ x ∈ l.drop k, x = 0 := fun x hx => by
    obtain ⟨i, hi, rfl⟩ := List.mem_iff_getElem.mp hx
    rw [List.getElem_drop]
    have := hz (k + i) (by with_reducible exact Nat.le_add_right _ _)
    rwa [gt0_in (by simp at hi; omega)] at this
  rw [List.eq_replicate_iff.mpr ⟨rfl, this⟩, val_zeros]

theorem row_step {w n sz : Nat} {B : Int} {b R F1 : List Int} {g q r rt : Int} (hB : 1 < B) (hRd : Dig B R) (hFd : Dig B F1) (hlen : F1.length = R.length) (hr : val B R = q * (B ^ n * val B b) + r) (r0 : 0 ≤ r) (r1 : r < B ^ n * val B b) (hb1 : B ^ n * val B b < B ^ (n + sz))
    (hgq : q ≤ g ∧ g ≤ q + 1) (hz : ∀ j, n + sz + 1 ≤ j → gt0 F1 j = 0) (hv : val B F1 = val B R - B ^ n * (g * val B b) + B ^ (n + sz + 1) * rt) (hrt : rt = 0 ∨ rt = 1) :
    (rt = 0 ∧ g = q ∧ val B F1 = r) ∨ (rt = 1 ∧ g = q + 1 ∧ val B F1 + B ^ n * val B b = r + B ^ (n + sz + 1)) := by
  have hF0 := val_nonneg (by with_reducible exact zle (by assumption)) hFd
  have hF1 := val_lt_gt0 (by with_reducible exact zlo (by assumption)) hFd hz
  have hp := pow_pos' (show 0 < B by with_reducible exact zlo (by assumption)) (n + sz)
  have hlt : B ^ (n + sz) ≤ B ^ (n + sz + 1) := pow_mono (by with_reducible exact zlo (by assumption)) (by with_reducible exact Nat.le_succ _)
  have e1 : B ^ n * (g * val B b) = g * (B ^ n * val B b) := by grind
  rw [e1, hr] at hv
  rcases (show g = q ∨ g = q + 1 by omega) with rfl | rfl
  · left
    rcases hrt with rfl | rfl
    · exact ⟨rfl, rfl, by omega⟩
    · exfalso; omega
  · right
    rw [Int.add_mul, Int.one_mul] at hv
    rcases hrt with rfl | rfl
    · exfalso; omega
    · exact ⟨rfl, rfl, by omega⟩

theorem divide_rows_loop {X : Option FDef} {d w : Nat} {b R0 : List Int} (hd : 1 ≤ d) (hw : W w) (hb : Dig (2 ^ w) b) (hz : Nz b) (h2 : 2 ≤ b.length) (hR : Dig (2 ^ w) R0) (hlen : b.length ≤ R0.length) (lR : R0.length ≤ lenLim) (hlt : val (2 ^ w) R0 < (2 ^ w) ^ (R0.length - b.length) * val (2 ^ w) b) :
    ∃ qs R fr, xS (callI (TT X) d) l_divide_rows_1 [.io (R0.map .int), .val (vi b), .val (.int w), .val (.int b.length), .own ((List.replicate (R0.length - b.length) 0).map .int), .unset, .unset] = some (.next, .io (R.map .int) :: .val (vi b) :: .val (.int w) :: .val (.int b.length) :: .own (qs.map .int) :: fr) ∧
      Dig (2 ^ w) qs ∧ qs.length ≤ R0.length ∧ Dig (2 ^ w) R ∧ R.length = R0.length ∧ val (2 ^ w) R0 = val (2 ^ w) b * val (2 ^ w) qs + val (2 ^ w) R ∧ val (2 ^ w) R < val (2 ^ w) b := by
  have hB := hw.two
  have hT := hw.top
  obtain ⟨sz, hsz⟩ : ∃ sz, sz = b.length := ⟨_, rfl⟩
  have k2 : 2 ≤ sz := hsz ▸ h2
  have k9 : 0 < b.length := Nat.lt_of_lt_of_le (by decide) h2
  have k0 : sz - 2 < b.length := by rw [hsz]; exact Nat.sub_lt k9 (by decide)
  have k4 : sz - 1 < b.length := by rw [hsz]; exact Nat.sub_lt k9 (by decide)
  have k1 : sz - 2 + 1 < b.length := by rw [a5 k2]; exact k4
  have k3 : b.length = sz - 2 + 1 + 1 := by rw [a5 k2, hsz]; exact (Nat.sub_add_cancel k9).symm
  obtain ⟨M, hV⟩ : ∃ M, M = val (2 ^ w) b := ⟨_, rfl⟩
  have hVlt : M < (2 ^ w) ^ sz := by rw [hV, hsz]; exact val_lt (by with_reducible exact zlt_tr (by assumption) (by decide)) hb
  have hVge : (2 ^ w) ^ (sz - 1) ≤ M := by rw [hV, hsz]; exact val_ge (by with_reducible exact zlt_tr (by assumption) (by decide)) hb hz (by intro e; rw [e] at h2; simp at h2)
  have hV0 : 0 < M := by have := pow_pos' (show (0 : Int) < 2 ^ w by with_reducible exact zlt_tr (by assumption) (by decide)) (sz - 1); with_reducible exact Int.lt_of_lt_of_le (by assumption) (by assumption)
  have hf1 := hb.gt0 (by with_reducible exact zlt_tr (by assumption) (by decide)) (sz - 1)
  have hs1 := hb.gt0 (by with_reducible exact zlt_tr (by assumption) (by decide)) (sz - 2)
  have lb : b.length ≤ lenLim := by with_reducible exact Nat.le_trans (by assumption) (by assumption)
  have hVsplit : M = val (2 ^ w) (b.take (sz - 2)) + (2 ^ w) ^ (sz - 2) * (gt0 b (sz - 2) + 2 ^ w * gt0 b (sz - 1)) := by
    rw [hV, val_split b (sz - 2) (by first | exact k0 | exact k1 | exact Nat.le_of_lt k0 | exact Nat.le_of_eq k3 | exact k4 | omega), val_at (k := sz - 2) (by first | exact k0 | exact k1 | exact Nat.le_of_lt k0 | exact Nat.le_of_eq k3 | exact k4 | omega), val_at (k := sz - 2 + 1) (by first | exact k0 | exact k1 | exact Nat.le_of_lt k0 | exact Nat.le_of_eq k3 | exact k4 | omega), List.drop_eq_nil_of_le (by first | exact k0 | exact k1 | exact Nat.le_of_lt k0 | exact Nat.le_of_eq k3 | exact k4 | omega), gt0_in (by first | exact k0 | exact k1 | exact Nat.le_of_lt k0 | exact Nat.le_of_eq k3 | exact k4 | omega), gt0_in (by first | exact k0 | exact k1 | exact Nat.le_of_lt k0 | exact Nat.le_of_eq k3 | exact k4 | omega)]
    simp only [val, Int.mul_zero, Int.add_zero, show sz - 2 + 1 = sz - 1 from a5 k2]
  have hf0 : 1 ≤ gt0 b (sz - 1) := by
    rcases Int.lt_or_le (gt0 b (sz - 1)) 1 with q | q
    · exfalso
      have e0 : gt0 b (sz - 1) = 0 := by omega
      apply hz
      rw [gt0_in (by omega)] at e0
      rw [List.getLast?_eq_getElem?, ← hsz, List.getElem?_eq_getElem k4, e0]
    · exact q
  have hI1 : item (b.map V.int) ((sz : Int) - 1) = some (.int (gt0 b (sz - 1))) := by
    rw [show ((sz : Int) - 1) = ((sz - 1 : Nat) : Int) from c1 (Nat.le_of_succ_le k2)]; exact item_gt k4 lb
  have hI2 : item (b.map V.int) ((sz : Int) - 2) = some (.int (gt0 b (sz - 2))) := by
    rw [show ((sz : Int) - 2) = ((sz - 2 : Nat) : Int) from c2 k2]; exact item_gt k0 lb
  rw [← hV]
  rw [← hsz] at hlen h2 hlt ⊢
  rw [← hV] at hlt
  have hlS : (R0.length : Int) ≤ lenLim := by with_reducible exact Int.ofNat_le.mpr (by assumption)
  have hf := xS_forR (C := callI (TT X) d) (kind := 3) (i := 5) (lo := .bin .sub (.bin .sub (.lenv 0) (.var 3)) (.int 1)) (hi := .neg (.int 1)) (s := l_divide_rows_1b) (fr := [.io (R0.map .int), .val (vi b), .val (.int w), .val (.int sz), .own ((List.replicate (R0.length - sz) 0).map .int), .unset, .unset]) (a := (R0.length : Int) - sz - 1) (b := -1) (by (simp! [lR] <;> rfl)) (by (simp! [] <;> rfl)) (by unfold lenLim at hlS; unfold lim; omega) (by decide)
  rw [l_divide_rows_1, hf]
  obtain ⟨f', e, hF⟩ := for_dn (body := stepR (callI (TT X) d) 5 l_divide_rows_1b) (fun k fr => ∀ G : Prop, (∀ R qs s t, fr = [.io (R.map .int), .val (vi b), .val (.int w), .val (.int sz), .own (qs.map .int), s, t] → setOk (some s) = true → setOk (some t) = true → R.length = R0.length → qs.length = R0.length - sz → Dig (2 ^ w) R → Dig (2 ^ w) qs → val (2 ^ w) R0 = M * ((2 ^ w) ^ (k + 1).toNat * val (2 ^ w) (qs.drop (k + 1).toNat)) + val (2 ^ w) R → val (2 ^ w) R < (2 ^ w) ^ (k + 1).toNat * M → G) → G) (lo := (R0.length : Int) - sz - 1) (hi := -1) (by omega) (by
    intro k fr h1 h2' hI
    refine hI _ fun R qs s t e4 hs ht hRl hql hRd hqd hval hRlt => ?_
    subst e4
    obtain ⟨n, rfl⟩ := Int.eq_ofNat_of_zero_le (show 0 ≤ k by omega)
    have hn : n + sz < R0.length := by omega
    have e2 : ((n : Int) + 1).toNat = n + 1 := by omega
    have e1 : ((n : Int) - 1 + 1).toNat = n := by with_reducible exact tn1
    rw [e2] at hval hRlt
    rw [e1]
    refine hide fun GG hGG => ?_
    have lR' : R.length ≤ lenLim := by with_reducible exact Nat.le_trans (Nat.le_of_eq (by assumption)) (by assumption)
    have hPn := pow_pos' (show (0 : Int) < 2 ^ w by with_reducible exact zlt_tr (by assumption) (by decide)) n
    have hQ := pow_pos' (show (0 : Int) < 2 ^ w by with_reducible exact zlt_tr (by assumption) (by decide)) (sz - 2)
    have hPV : 0 < (2 ^ w) ^ n * M := Int.mul_pos hPn hV0
    have hPVlt : (2 ^ w) ^ n * M < (2 ^ w) ^ (n + sz) := by
      rw [Int.pow_add]; exact Int.mul_lt_mul_of_pos_left hVlt hPn
    have hR0 := val_nonneg (by with_reducible exact zle_tr (by assumption) (by decide)) hRd
    have hRtop : val (2 ^ w) R < (2 ^ w) ^ (n + sz + 1) := by
      have a1 : (2 ^ w) ^ (n + 1) * M ≤ (2 ^ w) ^ (n + 1) * (2 ^ w) ^ sz := Int.mul_le_mul_of_nonneg_left (by with_reducible exact Int.le_of_lt (by assumption)) (Int.le_of_lt (pow_pos' (by with_reducible exact zlt_tr (by assumption) (by decide)) _))
      rw [← Int.pow_add, show n + 1 + sz = n + sz + 1 from by with_reducible exact Nat.add_right_comm _ _ _] at a1
      with_reducible exact Int.lt_of_lt_of_le (by assumption) (by assumption)
    have hRz := gt0_of_lt (by with_reducible exact zlt_tr (by assumption) (by decide)) hRd hRtop
    have hdm := dm (val (2 ^ w) R) ((2 ^ w) ^ n * M)
    have hmd := md (a := val (2 ^ w) R) hPV
    have hq0 := div_nn (a := val (2 ^ w) R) hPV hR0
    have hqB : val (2 ^ w) R / ((2 ^ w) ^ n * M) < 2 ^ w := div_lt hPV (by rw [Int.pow_succ, Int.mul_comm ((2 ^ w) ^ n) (2 ^ w), Int.mul_assoc] at hRlt; exact hRlt)
    generalize hqq : val (2 ^ w) R / ((2 ^ w) ^ n * M) = q at *
    generalize hrr : val (2 ^ w) R % ((2 ^ w) ^ n * M) = r at *
    have hk2 : n + sz - 2 + 2 < R.length := by rw [hRl]; exact a4 k2 hn
    have t0 := hRd.gt0 (by with_reducible exact Int.lt_of_le_of_lt (by assumption) (by assumption)) (n + sz - 2)
    have t1 := hRd.gt0 (by with_reducible exact Int.lt_of_le_of_lt (by assumption) (by assumption)) (n + sz - 2 + 1)
    have t2 := hRd.gt0 (by with_reducible exact Int.lt_of_le_of_lt (by assumption) (by assumption)) (n + sz - 2 + 2)
    obtain ⟨g, eg, g0, g1, gl, gu⟩ := guess_spec (X := X) (d := d) hd hw t0 t1 t2 ⟨hf0, hf1.2⟩ hs1
    have hsl : cutI (R.map V.int) (some ((n : Int) + (sz : Int) - 2)) (some ((n : Int) + (sz : Int) + 1)) = [.int (gt0 R (n + sz - 2)), .int (gt0 R (n + sz - 2 + 1)), .int (gt0 R (n + sz - 2 + 2))] := by
      rw [show ((n : Int) + (sz : Int) - 2) = ((n + sz - 2 : Nat) : Int) from c2 (n := n + sz) (Nat.le_trans k2 (Nat.le_add_left _ _)), show ((n : Int) + (sz : Int) + 1) = ((n + sz + 1 : Nat) : Int) from rfl, cut_mid (Nat.le_trans (Nat.sub_le _ _) (Nat.le_succ _)) (by rw [hRl]; exact hn), show n + sz + 1 - (n + sz - 2) = 3 from a3 k2, three (by with_reducible assumption)]
      rfl
    have hv3 := val_three (B := 2 ^ w) hk2
    rw [val_top0 (by with_reducible exact Nat.succ_le_of_lt (by assumption)) (fun j hj => hRz j (a6 k2 hj)), Int.mul_zero, Int.add_zero] at hv3
    have hPQ : ((2 : Int) ^ w) ^ (n + sz - 2) = (2 ^ w) ^ n * (2 ^ w) ^ (sz - 2) := by rw [← Int.pow_add, show n + (sz - 2) = n + sz - 2 from (Nat.add_sub_assoc k2 n).symm]
    have lowR0 := val_nonneg (by with_reducible exact zle_tr (by assumption) (by decide)) (hRd.take (n + sz - 2))
    have lowR1 := val_lt (by with_reducible exact zlt_tr (by assumption) (by decide)) (hRd.take (n + sz - 2))
    rw [List.length_take, Nat.min_eq_left (Nat.le_trans (Nat.le_add_right _ 2) (Nat.le_of_lt hk2))] at lowR1
    rw [hPQ] at lowR1 hv3
    have lowV0 := val_nonneg (by with_reducible exact zle_tr (by assumption) (by decide)) (hb.take (sz - 2))
    have lowV1 := val_lt (by with_reducible exact zlt_tr (by assumption) (by decide)) (hb.take (sz - 2))
    rw [List.length_take, Nat.min_eq_left (Nat.le_of_lt k0)] at lowV1
    have hv2B : (2 : Int) ^ w ≤ gt0 b (sz - 2) + 2 ^ w * gt0 b (sz - 1) := by
      have : (2 : Int) ^ w * 1 ≤ 2 ^ w * gt0 b (sz - 1) := Int.mul_le_mul_of_nonneg_left hf0 (by with_reducible exact zle_tr (by assumption) (by decide))
      omega
    have hgq := guess_ok hPn hQ (show (0 : Int) < 2 ^ w by with_reducible exact zlt_tr (by assumption) (by decide)) hv3 lowR0 lowR1 hVsplit lowV0 lowV1 hv2B g0 g1 gl gu (q := q) (r := r) (by rw [Int.mul_comm q]; omega) hmd.1 hmd.2 (by with_reducible exact Int.le_sub_one_of_lt (by assumption)) hq0
    obtain ⟨F1, rt, eF, hrt, F1l, F1d, F1v, F1z⟩ := take_spec (X := X) (d := d) (n := n) (F0 := R) (b := b) hd hw hb hRd ⟨g0, by omega⟩ (by omega) lR'
    rw [← hsz] at F1v F1z
    have F1z' : ∀ j, n + sz + 1 ≤ j → gt0 F1 j = 0 := fun j hj => by rw [F1z j hj]; exact hRz j hj
    have hrow := row_step (w := w) (n := n) (sz := sz) (b := b) (R := R) (F1 := F1) (g := g) (q := q) (r := r) (rt := rt) (B := 2 ^ w) (by with_reducible exact zlt_tr (by assumption) (by decide)) hRd F1d F1l (by rw [← hV, Int.mul_comm q]; omega) hmd.1 (by rw [← hV]; exact hmd.2) (by rw [← hV]; exact hPVlt) hgq F1z' F1v hrt
    rw [← hV] at hrow
    have hqs : n < qs.length := hql ▸ Nat.lt_sub_of_add_lt hn
    have hset : setItem (qs.map V.int) (n : Int) (.int q) = some ((qs.set n q).map .int) := set_at hqs (hql ▸ Nat.le_trans (Nat.sub_le _ _) lR)
    have hfin : ∀ {G : List Int}, val (2 ^ w) G = r → val (2 ^ w) R0 = M * ((2 ^ w) ^ n * val (2 ^ w) ((qs.set n q).drop n)) + val (2 ^ w) G ∧ val (2 ^ w) G < (2 ^ w) ^ n * M := fun {G} hG => by
      rw [hG, val_at (l := qs.set n q) (by simpa using hqs), List.getElem_set_self, List.drop_set_of_lt (by omega)]
      refine ⟨?_, hmd.2⟩
      rw [hval, ← hdm, Int.pow_succ]
      generalize (2 ^ w : Int) ^ n = P
      grind
    rcases hrow with ⟨rfl, rfl, hv⟩ | ⟨rfl, rfl, hv⟩
    · obtain ⟨a1, a2⟩ := hfin hv
      exact hGG ⟨_, by unfold stepR l_divide_rows_1b; (simp! [hs, ht, lR', hsl, hI1, hI2, eg, eF, hset, Int.reduceEq] <;> rfl), fun _ KK => KK F1 (qs.set n g) (.val (.int n)) (.val (.int g)) rfl rfl rfl (by omega) (by simpa using hql) F1d (hqd.set ⟨g0, by with_reducible assumption⟩) a1 a2⟩
    · obtain ⟨F2, k, e3, hk, F2l, F2d, F2v, F2z⟩ := put_spec (X := X) (d := d) (n := n) (F0 := F1) (b := b) hd hw hb F1d (by omega) (by with_reducible exact Nat.le_trans (Nat.le_of_eq (by assumption)) (by assumption))
      rw [← hsz, ← hV] at F2v
      rw [← hsz] at F2z
      have F2z' : ∀ j, n + sz + 1 ≤ j → gt0 F2 j = 0 := fun j hj => by rw [F2z j hj]; exact F1z' j hj
      have b1 := val_lt_gt0 (by with_reducible exact zlt_tr (by assumption) (by decide)) F2d F2z'
      have b0 := val_nonneg (by with_reducible exact zle_tr (by assumption) (by decide)) F2d
      have hkk : k = 1 := by
        rcases hk with rfl | rfl
        · omega
        · rfl
      subst hkk
      obtain ⟨a1, a2⟩ := hfin (G := F2) (by omega)
      have hqe : q + 1 - 1 = q := by omega
      exact hGG ⟨_, by unfold stepR l_divide_rows_1b; (simp! [hs, ht, lR', hsl, hI1, hI2, eg, eF, e3, hqe, hset] <;> rfl), fun _ KK => KK F2 (qs.set n q) (.val (.int n)) (.val (.int q)) rfl rfl rfl (by omega) (by simpa using hql) F2d (hqd.set ⟨hq0, by with_reducible assumption⟩) a1 a2⟩) _ (fun _ KK => KK R0 (List.replicate (R0.length - sz) 0) .unset .unset rfl rfl rfl rfl (by simp) hR (fun x hx => by rw [(List.mem_replicate.mp hx).2]; omega) (by rw [show ((R0.length : Int) - sz - 1 + 1).toNat = R0.length - sz from by omega, List.drop_eq_nil_of_le (by simp)]; simp [val]) (by rw [show ((R0.length : Int) - sz - 1 + 1).toNat = R0.length - sz from by omega]; exact hlt))
  refine hF _ fun R qs s t e4 hs ht h3 h4 h5 h6 h7 h8 => ?_
  subst e4
  simp at h7 h8
  exact ⟨qs, R, _, e, h6, by omega, h5, h3, h7, h8⟩
end Mine
end PSp10

section PSp11
namespace Mine

theorem divide_rows_spec {X : Option FDef} {d w : Nat} {b R0 : List Int} (hd : 2 ≤ d) (hw : W w) (hb : Dig (2 ^ w) b) (hz : Nz b) (h2 : 2 ≤ b.length) (hR : Dig (2 ^ w) R0) (hlen : b.length ≤ R0.length) (lR : R0.length ≤ lenLim) (hlt : val (2 ^ w) R0 < (2 ^ w) ^ (R0.length - b.length) * val (2 ^ w) b) :
    ∃ qs F, callI (TT X) d (.fn 34) (some (R0.map .int)) [vi b, .int w] = some (vi qs, F.map .int) ∧
      Dig (2 ^ w) qs ∧ qs.length ≤ R0.length ∧ Dig (2 ^ w) F ∧ F.length = R0.length ∧ val (2 ^ w) R0 = val (2 ^ w) b * val (2 ^ w) qs + val (2 ^ w) F ∧ val (2 ^ w) F < val (2 ^ w) b := by
  obtain ⟨d, rfl⟩ := Nat.exists_eq_add_of_le' (show 1 ≤ d by with_reducible exact Nat.le_of_succ_le (by assumption))
  obtain ⟨qs, F, fr, e, h3, h4, h5, h6, h7, h8⟩ := divide_rows_loop (X := X) (d := d) (by with_reducible exact le_up (by assumption) (by decide)) hw hb hz h2 hR hlen lR hlt
  have lb : b.length ≤ lenLim := by with_reducible exact Nat.le_trans (by assumption) (by assumption)
  have hrep : bin .mul (.list [.int 0]) (.int ((R0.length : Int) - (b.length : Int))) = some (.fresh ((List.replicate (R0.length - b.length) 0).map .int)) := by
    rw [show ((R0.length : Int) - (b.length : Int)) = ((R0.length - b.length : Nat) : Int) from by with_reducible exact (Int.ofNat_sub (by assumption)).symm]; exact bin_rep (by with_reducible exact Nat.le_trans (Nat.sub_le _ _) (by assumption))
  exact ⟨qs, F, call_goIo (fd := d_divide_rows) (TT_tab (by decide) rfl) rfl rfl (fl := .ret (vi qs)) ⟨_, by show xSs _ b_divide_rows _ = _; unfold b_divide_rows; (simp! [lb, lR, hrep, e] <;> rfl), rfl⟩ rfl, h3, h4, h5, h6, h7, h8⟩

theorem divrem_small_spec {X : Option FDef} {d w : Nat} {a b : List Int} {n m : Int} (hd : 3 ≤ d) (hw : W w) (ha : Num (2 ^ w) n a) (hb : Num (2 ^ w) m b) (la : a.length ≤ lenLim) (hl : b.length = 1) :
    ∃ q r, callI (TT X) d (.fn 30) none [vi a, vi b, .int w] = some (.tup [vi q, vi r], []) ∧ Num (2 ^ w) (n / m) q ∧ Num (2 ^ w) (n % m) r := by
  obtain ⟨d, rfl⟩ := Nat.exists_eq_add_of_le' (show 1 ≤ d by with_reducible exact Nat.le_trans (Nat.le_add_left _ _) (by assumption))
  have hB := hw.two
  match b, hl with
  | [x], _ =>
    have hx := hb.dig x (by simp)
    have hx0 : x ≠ 0 := by have := hb.nz; simpa [Nz] using this
    have hm : m = x := by rw [← hb.val]; simp [val]
    subst hm
    obtain ⟨q, eq, hq⟩ := divrem_limb_spec (X := X) (d := d) (m := m) (by with_reducible exact le_up (by assumption) (by decide)) hw ha la (by omega) hx.2
    have hmd := md (a := n) (b := m) (by omega)
    have hi : item [V.int m] 0 = some (.int m) := item_pos (l := [m]) (by with_reducible decide) rfl (by simp [lenLim])
    by_cases hr : 0 < n % m
    · refine ⟨q, [n % m], call_go (fd := d_divrem_small) (TT_tab (by decide) rfl) rfl rfl (fl := .ret (.tup [vi q, vi [n % m]])) ⟨_, by show xSs _ b_divrem_small _ = _; unfold b_divrem_small; (simp! [hi, eq, hr] <;> rfl)⟩ rfl, hq, ⟨.cons ⟨hmd.1, by omega⟩ .nil, by simp [Nz]; omega, by simp [val]⟩⟩
    · refine ⟨q, [], call_go (fd := d_divrem_small) (TT_tab (by decide) rfl) rfl rfl (fl := .ret (.tup [vi q, vi []])) ⟨_, by show xSs _ b_divrem_small _ = _; unfold b_divrem_small; (simp! [hi, eq, hr] <;> rfl)⟩ rfl, hq, ?_⟩
      rw [show n % m = 0 from by omega]; exact Num.zero

theorem cut_all {vs : List V} : cutI vs none none = vs := by
  unfold cutI
  simp
theorem divrem_spec {X : Option FDef} {d w : Nat} {a b : List Int} {n m : Int} (hd : 4 ≤ d) (hw : W w) (ha : Num (2 ^ w) n a) (hb : Num (2 ^ w) m b) (la : a.length < lenLim) (lb : b.length < lenLim) (hm : 0 < m) :
    ∃ q r, callI (TT X) d (.fn 35) none [vi a, vi b, .int w] = some (.tup [vi q, vi r], []) ∧ Num (2 ^ w) (n / m) q ∧ Num (2 ^ w) (n % m) r := by
  obtain ⟨d, rfl⟩ := Nat.exists_eq_add_of_le' (show 1 ≤ d by with_reducible exact Nat.le_trans (Nat.le_add_left _ _) (by assumption))
  have hB := hw.two
  have la' : a.length ≤ lenLim := by with_reducible exact Nat.le_of_lt (by assumption)
  have lb' : b.length ≤ lenLim := by with_reducible exact Nat.le_of_lt (by assumption)
  have n0 := ha.nonneg (by with_reducible exact zlt_tr (by assumption) (by decide))
  have hbne : b ≠ [] := fun e => by have := (hb.nil_iff (by with_reducible exact zlt_tr (by assumption) (by decide))).mp e; omega
  have hbl : b.length ≠ 0 := fun e => hbne (List.eq_nil_of_length_eq_zero e)
  have hi0 : ¬ (b.length : Int) = 0 := by omega
  have hc := compare_spec (X := X) (d := d) (by with_reducible exact le_up (by assumption) (by decide)) (by with_reducible exact zlt_tr (by assumption) (by decide)) ha hb la' lb'
  by_cases hnm : n < m
  · have hcv : cmpR n m < 0 := by unfold cmpR; rw [if_pos hnm]; decide
    refine ⟨[], a, call_go (fd := d_divrem_school) (TT_tab (by decide) rfl) rfl rfl (fl := .ret (.tup [vi [], vi a])) ⟨_, by show xSs _ b_divrem_school _ = _; unfold b_divrem_school; (simp! [la', lb', hi0, hc, hcv, cut_all] <;> rfl)⟩ rfl, ?_, ?_⟩
    · rw [Int.ediv_eq_zero_of_lt n0 hnm]; exact Num.zero
    · rw [Int.emod_eq_of_lt n0 hnm]; exact ha
  · have hcv : ¬ cmpR n m < 0 := by unfold cmpR; rw [if_neg hnm]; split <;> with_reducible decide
    by_cases h1 : b.length = 1
    · obtain ⟨q, r, e, hq, hr⟩ := divrem_small_spec (X := X) (d := d) (by with_reducible exact le_up (by assumption) (by decide)) hw ha hb la' h1
      have hi1 : (b.length : Int) = 1 := by omega
      exact ⟨q, r, call_go (fd := d_divrem_school) (TT_tab (by decide) rfl) rfl rfl (fl := .ret (.tup [vi q, vi r])) ⟨_, by show xSs _ b_divrem_school _ = _; unfold b_divrem_school; (simp! [lb', hi0, hc, hcv, hi1, e, Int.reduceEq] <;> rfl)⟩ rfl, hq, hr⟩
    · have hi1 : ¬ (b.length : Int) = 1 := by omega
      obtain ⟨rb, x, hbx⟩ : ∃ rb x, b = rb ++ [x] := ⟨b.dropLast, b.getLast hbne, (List.dropLast_concat_getLast hbne).symm⟩
      have hx := hb.dig x (by rw [hbx]; simp)
      have hx0 : x ≠ 0 := by have := hb.nz; rw [hbx] at this; simpa [Nz] using this
      have hxn : Num (2 ^ w) x [x] := ⟨.cons hx .nil, by simpa [Nz] using hx0, by simp [val]⟩
      obtain ⟨k, ek, k0, kl, kh⟩ := bits_spec (X := X) (d := d) (by with_reducible exact le_up (by assumption) (by decide)) hw hxn (by simp [lenLim]) (by omega)
      have ek' : callI (TT X) d (.fn 9) none [.list [.int x], .int w] = some (.int k, []) := ek
      have kw : k ≤ w := by
        rcases Nat.lt_or_ge w k with q | q
        · have := pow_mono (show (0 : Int) < 2 by with_reducible decide) (show w ≤ k - 1 by omega)
          omega
        · exact q
      have hil : item (b.map V.int) (-1) = some (.int x) := by rw [hbx]; exact item_last
      obtain ⟨s, hs⟩ : ∃ s, s = w - k := ⟨_, rfl⟩
      have hsw : s < w := by omega
      have hsi : (w : Int) - (k : Int) = (s : Int) := by omega
      have hp := pow_pos' (show (0 : Int) < 2 by with_reducible decide) s
      obtain ⟨c, ec, hcn⟩ := shift_left_spec (X := X) (d := d) (n := s) (by with_reducible exact le_up (by assumption) (by decide)) hw hsw hb lb
      obtain ⟨f, ef, hfn⟩ := shift_left_spec (X := X) (d := d) (n := s) (by with_reducible exact le_up (by assumption) (by decide)) hw hsw ha la
      have hrb : rb.length = b.length - 1 := by rw [hbx]; simp
      have hrbd : Dig (2 ^ w) rb := hb.dig.sub (by rw [hbx]; simp +contextual)
      have hmv := hb.val
      rw [hbx, val_push, hrb] at hmv
      have rb0 := val_nonneg (by with_reducible exact zle_tr (by assumption) (by decide)) hrbd
      have rb1 := val_lt (by with_reducible exact zlt_tr (by assumption) (by decide)) hrbd
      rw [hrb] at rb1
      have hPb := pow_pos' (show (0 : Int) < 2 ^ w by with_reducible exact zlt_tr (by assumption) (by decide)) (b.length - 1)
      have hmge : (2 ^ w) ^ (b.length - 1) ≤ m := by have := val_ge (by with_reducible exact zlt_tr (by assumption) (by decide)) hb.dig hb.nz hbne; rw [hb.val] at this; exact this
      have hm2 : m * 2 ^ s < (2 ^ w) ^ b.length := by
        have a1 : (2 ^ w) ^ (b.length - 1) * (x + 1) ≤ (2 ^ w) ^ (b.length - 1) * 2 ^ k := Int.mul_le_mul_of_nonneg_left (by with_reducible exact Int.add_one_le_of_lt (by assumption)) (by with_reducible exact Int.le_of_lt (by assumption))
        have a2 : m < (2 ^ w) ^ (b.length - 1) * 2 ^ k := by rw [Int.mul_add, Int.mul_one] at a1; omega
        have a3 : m * 2 ^ s < (2 ^ w) ^ (b.length - 1) * 2 ^ k * 2 ^ s := Int.mul_lt_mul_of_pos_right a2 hp
        rw [Int.mul_assoc, ← Int.pow_add, show k + s = w from by omega, ← Int.pow_succ, show (b.length - 1).succ = b.length from by omega] at a3
        exact a3
      have hmm : m * 1 ≤ m * 2 ^ s := Int.mul_le_mul_of_nonneg_left (by omega) (by with_reducible exact Int.le_of_lt (by assumption))
      have hcl : c.length = b.length := by
        have a1 := hcn.len (by with_reducible exact zlt_tr (by assumption) (by decide)) hm2
        have a2 := val_lt (by with_reducible exact zlt_tr (by assumption) (by decide)) hcn.dig
        rw [hcn.val] at a2
        rcases Nat.lt_or_ge c.length b.length with q | q
        · have := pow_mono (show (0 : Int) < 2 ^ w by with_reducible exact zlt_tr (by assumption) (by decide)) (show c.length ≤ b.length - 1 by omega)
          omega
        · omega
      have han := val_lt (by with_reducible exact zlt_tr (by assumption) (by decide)) ha.dig
      rw [ha.val] at han
      have hsB : (2 : Int) ^ s ≤ 2 ^ w := pow_mono (by with_reducible decide) (by with_reducible exact Nat.le_of_lt (by assumption))
      have hPa := pow_pos' (show (0 : Int) < 2 ^ w by omega) a.length
      have hfl : f.length ≤ a.length + 1 := by
        refine hfn.len (by omega) ?_
        have a1 : n * 2 ^ s < (2 ^ w) ^ a.length * 2 ^ s := Int.mul_lt_mul_of_pos_right han hp
        have a2 : ((2 : Int) ^ w) ^ a.length * 2 ^ s ≤ (2 ^ w) ^ a.length * 2 ^ w := Int.mul_le_mul_of_nonneg_left hsB (Int.le_of_lt hPa)
        rw [Int.pow_succ]; with_reducible exact Int.lt_of_lt_of_le (by assumption) (by assumption)
      have hba : b.length ≤ a.length := by
        rcases Nat.lt_or_ge a.length b.length with q | q
        · have := len_lt (by omega) ha hb q; omega
        · exact q
      obtain ⟨R0, hR0⟩ : ∃ R0, R0 = f ++ List.replicate (a.length + 1 - f.length) 0 := ⟨_, rfl⟩
      have hR0l : R0.length = a.length + 1 := by rw [hR0]; simp; with_reducible exact Nat.add_sub_cancel' (by assumption)
      have hR0d : Dig (2 ^ w) R0 := by rw [hR0]; exact hfn.dig.append fun x hx => by rw [(List.mem_replicate.mp hx).2]; omega
      have hR0v : val (2 ^ w) R0 = n * 2 ^ s := by rw [hR0, val_append, val_zeros, Int.mul_zero, Int.add_zero, hfn.val]
      have hrep : bin .mul (.list [.int 0]) (.int ((a.length : Int) + 1 - (f.length : Int))) = some (.fresh ((List.replicate (a.length + 1 - f.length) 0).map .int)) := by
        rw [show ((a.length : Int) + 1 - (f.length : Int)) = ((a.length + 1 - f.length : Nat) : Int) from by omega]; exact bin_rep (by omega)
      have lf : f.length ≤ lenLim := by omega
      have hcat : bin .add (.list (f.map V.int)) (.list ((List.replicate (a.length + 1 - f.length) 0).map V.int)) = some (.fresh (R0.map .int)) := by
        rw [hR0]; exact bin_cat (by simp; omega)
      have hlt : val (2 ^ w) R0 < (2 ^ w) ^ (R0.length - c.length) * val (2 ^ w) c := by
        rw [hR0v, hcn.val, hR0l, hcl]
        have a1 : (2 ^ w) ^ (a.length + 1 - b.length) * (2 ^ w) ^ (b.length - 1) ≤ (2 ^ w) ^ (a.length + 1 - b.length) * m := Int.mul_le_mul_of_nonneg_left hmge (Int.le_of_lt (pow_pos' (by omega) _))
        rw [← Int.pow_add, show a.length + 1 - b.length + (b.length - 1) = a.length from by omega] at a1
        have a2 : n * 2 ^ s < (2 ^ w) ^ (a.length + 1 - b.length) * m * 2 ^ s := Int.mul_lt_mul_of_pos_right (by with_reducible exact Int.lt_of_lt_of_le (by assumption) (by assumption)) hp
        rw [Int.mul_assoc] at a2; exact a2
      obtain ⟨qs, F, eq, qd, ql, Fd, hFl, hv, hvl⟩ := divide_rows_spec (X := X) (d := d) (by with_reducible exact le_up (by assumption) (by decide)) hw hcn.dig hcn.nz (by omega) hR0d (by omega) (by omega) hlt
      rw [hR0v, hcn.val] at hv
      rw [hcn.val] at hvl
      have F0 := val_nonneg (by omega) Fd
      have hFv : val (2 ^ w) F = 2 ^ s * (n - m * val (2 ^ w) qs) := by
        generalize val (2 ^ w) qs = Q at *
        generalize (2 : Int) ^ s = S at *
        grind
      have hqr : n / m = val (2 ^ w) qs ∧ n % m = n - m * val (2 ^ w) qs := by
        refine (Int.ediv_emod_unique hm).mpr ⟨by omega, ?_, ?_⟩
        · rcases Int.lt_or_le (n - m * val (2 ^ w) qs) 0 with q | q
          · have := Int.mul_neg_of_pos_of_neg hp q; omega
          · exact q
        · refine Int.lt_of_mul_lt_mul_left (a := 2 ^ s) ?_ (by with_reducible exact Int.le_of_lt (by assumption))
          rw [← hFv, Int.mul_comm (2 ^ s) m]; exact hvl
      obtain ⟨q, eq1, hq1, _⟩ := normal_spec (X := X) (d := d) (a := qs) (by with_reducible exact le_up (by assumption) (by decide)) (by omega) qd
      obtain ⟨r1, er1, hr1, hr1l⟩ := normal_spec (X := X) (d := d) (a := F) (by with_reducible exact le_up (by assumption) (by decide)) (by omega) Fd
      obtain ⟨r, er, hr⟩ := shift_right_spec (X := X) (d := d) (n := s) (by with_reducible exact le_up (by assumption) (by decide)) hw hsw hr1 (by omega)
      refine ⟨q, r, call_go (fd := d_divrem_school) (TT_tab (by decide) rfl) rfl rfl (fl := .ret (.tup [vi q, vi r])) ⟨_, by show xSs _ b_divrem_school _ = _; unfold b_divrem_school; (simp! [la', lb', hi0, hc, hcv, hi1, hil, ek', hsi, ec, ef, lf, hrep, hcat, eq, eq1, er1, er] <;> rfl)⟩ rfl, ?_, ?_⟩
      · rw [hqr.1]; exact hq1
      · rw [hqr.2]
        rw [hFv, Int.mul_ediv_cancel_left _ (by omega)] at hr
        exact hr
end Mine
end PSp11

section PSp12
namespace Mine

theorem Num.lenB {w k : Nat} {n : Int} {l : List Int} (hw : W w) (h : Num (2 ^ w) n l) (hn : n < 2 ^ k) : l.length ≤ k := by
  have hB := hw.two
  refine h.len (by with_reducible exact zlt_tr (by assumption) (by decide)) ?_
  have := two_pow_le hB k
  with_reducible exact Int.lt_of_lt_of_le (by assumption) (by assumption)
theorem LI.len' {B N x : Int} {f : List Int} {k : Nat} (hB : 2 ≤ B) (h : LI B N x f) (hx : 0 < x) (hN : N < 2 ^ k) : f.length < k := by
  rcases Nat.lt_or_ge f.length k with q | q
  · exact q
  · have h1 := pow_mono (show (0 : Int) < 2 by with_reducible decide) q
    have h2 := two_pow_le hB f.length
    have h3 : B ^ f.length * 1 ≤ B ^ f.length * x := Int.mul_le_mul_of_nonneg_left (by omega) (by have := pow_pos' (show 0 < B by with_reducible exact zlt_tr (by assumption) (by decide)) f.length; with_reducible exact Int.le_of_lt (by assumption))
    have h4 := val_nonneg (by with_reducible exact zle_tr (by assumption) (by decide)) h.dig
    have h5 := h.val
    omega
noncomputable def Big (n : Int) : Prop := n < 2 ^ 1000
theorem Big.len {w : Nat} {n : Int} {l : List Int} (hw : W w) (h : Num (2 ^ w) n l) (hn : Big n) : l.length ≤ 1000 := h.lenB hw hn

theorem check_base_spec {X : Option FDef} {d : Nat} {b : Int} (hd : 1 ≤ d) (hb : 2 ≤ b) : callI (TT X) d (.fn 12) none [.int b] = some (.none, []) := by
  obtain ⟨d, rfl⟩ := Nat.exists_eq_add_of_le' hd
  have h : ¬ b < 2 := by with_reducible exact Int.not_lt.mpr (by assumption)
  exact call_go (fd := d_check_base) (TT_tab (by decide) rfl) rfl rfl (fl := .next) ⟨_, by show xSs _ b_check_base _ = _; unfold b_check_base; (simp! [h] <;> rfl)⟩ rfl

theorem digit_off_spec {X : Option FDef} {d w : Nat} {a : List Int} {n b : Int} {g : V} (hd : 3 ≤ d) (hw : W w) (ha : Num (2 ^ w) n a) (la : a.length ≤ lenLim) (hb : 2 ≤ b) (hbw : b < 2 ^ w) :
    ∃ c, callI (TT X) d (.fn 13) none [vi a, .int b, .int w, g] = some (.tup [vi c, .int (n % b)], []) ∧ Num (2 ^ w) (n / b) c := by
  obtain ⟨d, rfl⟩ := Nat.exists_eq_add_of_le' (show 1 ≤ d by with_reducible exact Nat.le_trans (Nat.le_add_left _ _) (by assumption))
  obtain ⟨c, e, hc⟩ := divrem_limb_spec (X := X) (d := d) (m := b) (by with_reducible exact le_up (by assumption) (by decide)) hw ha la (by with_reducible exact zlt_tr (by assumption) (by decide)) hbw
  exact ⟨c, call_go (fd := d_digit_off) (TT_tab (by decide) rfl) rfl rfl (fl := .ret (.tup [vi c, .int (n % b)])) ⟨_, by show xSs _ b_digit_off _ = _; unfold b_digit_off; (simp! [msk hw, hbw, e] <;> rfl)⟩ rfl, hc⟩

theorem digits_plain_spec {X : Option FDef} {d w : Nat} {a : List Int} {n b : Int} {g : V} (hd : 4 ≤ d) (hw : W w) (ha : Num (2 ^ w) n a) (hn : Big n) (hb : 2 ≤ b) (hbw : b < 2 ^ w) :
    ∃ f, callI (TT X) d (.fn 14) none [vi a, .int b, .int w, g] = some (vi f.reverse, []) ∧ Num b n f := by
  obtain ⟨d, rfl⟩ := Nat.exists_eq_add_of_le' (show 1 ≤ d by with_reducible exact Nat.le_trans (Nat.le_add_left _ _) (by assumption))
  have hB := hw.two
  have L : ∃ f', xS (callI (TT X) d) l_digits_plain_1 [.val (vi a), .val (.int b), .val (.int w), .val g, .own [], .unset] = some (.next, f') ∧ ∃ f s, f' = [.val (vi []), .val (.int b), .val (.int w), .val g, .own (f.map .int), s] ∧ Num b n f := by
    rw [l_digits_plain_1, xS_wh]
    refine while_inv (fun k fr => ∃ x c f s, fr = [.val (vi c), .val (.int b), .val (.int w), .val g, .own (f.map .int), s] ∧ setOk (some s) = true ∧ Num (2 ^ w) x c ∧ LI b n x f ∧ x ≤ n ∧ x.toNat = k) _ ?_ n.toNat _ ⟨n, a, [], .unset, rfl, rfl, ha, LI.start (ha.nonneg (by with_reducible exact zlt_tr (by assumption) (by decide))), Int.le_refl _, rfl⟩
    rintro k fr ⟨x, c, f, s, rfl, hs, hc, hi, hxn, rfl⟩
    have lc : c.length ≤ lenLim := by have := Big.len hw hc (by unfold Big at *; with_reducible exact Int.lt_of_le_of_lt (by assumption) (by assumption)); unfold lenLim; with_reducible exact le_dn (by assumption) (by decide)
    by_cases hx : 0 < x
    · right
      have lf : f.length ≤ lenLim := by have := hi.len' hb hx hn; unfold lenLim; omega
      obtain ⟨c', e, hc'⟩ := digit_off_spec (X := X) (d := d) (g := g) (by with_reducible exact le_up (by assumption) (by decide)) hw hc lc hb hbw
      have hcl : (0 : Int) < (c.length : Int) := by
        have : c ≠ [] := fun e => by have := (hc.nil_iff (by with_reducible exact zlt_tr (by assumption) (by decide))).mp e; omega
        have := List.length_pos_iff.mpr this
        omega
      have hdd := div_dec hb hx
      have hq0 := div_nn (a := x) (b := b) (by with_reducible exact zlt_tr (by assumption) (by decide)) (by with_reducible exact Int.le_of_lt (by assumption))
      exact ⟨_, _, _, by unfold l_digits_plain_1t; (simp! [lc, hcl] <;> rfl), .inl (by unfold l_digits_plain_1b; (simp! [e, hs, lf, push_map] <;> rfl)), hdd, _, _, _, _, rfl, rfl, hc', hi.step hb hx, by omega, rfl⟩
    · left
      have hx0 : x = 0 := by have := hi.nn; omega
      subst hx0
      have hc0 : c = [] := (hc.nil_iff (by with_reducible exact zlt_tr (by assumption) (by decide))).mpr rfl
      subst hc0
      exact ⟨_, by unfold l_digits_plain_1t; (simp! [List.length_nil, Nat.zero_le, Int.natCast_zero, Int.lt_irrefl] <;> rfl), f, s, rfl, hi.done⟩
  obtain ⟨f', e, f, s, rfl, hf⟩ := L
  have lf : f.length ≤ lenLim := by
    have := hf.len (k := 1000) (by with_reducible exact zlt_tr (by assumption) (by decide)) (by have := two_pow_le hb 1000; unfold Big at hn; with_reducible exact Int.lt_of_lt_of_le (by assumption) (by assumption))
    unfold lenLim; with_reducible exact le_dn (by assumption) (by decide)
  exact ⟨f, call_go (fd := d_digits_plain) (TT_tab (by decide) rfl) rfl rfl (fl := .ret (vi f.reverse)) ⟨_, by show xSs _ b_digits_plain _ = _; unfold b_digits_plain; (simp! [e, lf, ← List.map_reverse] <;> rfl)⟩ rfl, hf⟩

noncomputable def Pows (w : Nat) (b : Int) (ps : List (List Int)) : Prop := ∀ (i : Nat) (p : List Int), ps[i]? = some p → Num (2 ^ w) (b ^ 2 ^ i) p
theorem Pows.push {w : Nat} {b : Int} {ps : List (List Int)} {p : List Int} (h : Pows w b ps) (hp : Num (2 ^ w) (b ^ 2 ^ ps.length) p) : Pows w b (ps ++ [p]) := fun i q e => by
  rcases Nat.lt_trichotomy i ps.length with k | k | k
  · rw [List.getElem?_append_left k] at e; exact h i q e
  · subst k; simp at e; subst e; exact hp
  · rw [List.getElem?_append_right (by with_reducible exact Nat.le_of_lt (by assumption)), List.getElem?_eq_none (by simp; omega)] at e; cases e
theorem Pows.nil {w : Nat} {b : Int} : Pows w b [] := fun i p e => by simp at e
theorem sq_pow {b : Int} {k : Nat} : b ^ 2 ^ k * b ^ 2 ^ k = b ^ 2 ^ (k + 1) := by
  rw [← Int.pow_add]; congr 1; rw [Nat.pow_succ]; omega
theorem push_vi (ps : List (List Int)) (p : List Int) : ps.map vi ++ [vi p] = (ps ++ [p]).map vi := by simp
theorem pw_ge {b : Int} (hb : 2 ≤ b) (k : Nat) : 2 ≤ b ^ 2 ^ k := by
  have h1 := two_pow_le hb (2 ^ k)
  have h2 := pow_mono (show (0 : Int) < 2 by with_reducible decide) (show 1 ≤ 2 ^ k from Nat.one_le_two_pow)
  simp at h2
  with_reducible exact Int.le_trans (by assumption) (by assumption)
theorem pow_len {b : Int} {k N : Nat} (hb : 2 ≤ b) (h : b ^ 2 ^ k < 2 ^ N) : 2 ^ k < N := by
  rcases Nat.lt_or_ge (2 ^ k) N with q | q
  · exact q
  · have h1 := two_pow_le hb (2 ^ k)
    have h2 := pow_mono (show (0 : Int) < 2 by with_reducible decide) q
    omega

theorem base_powers_spec {X : Option FDef} {d w : Nat} {a : List Int} {n b : Int} (hd : 3 ≤ d) (hw : W w) (ha : Num (2 ^ w) n a) (hn : Big n) (hb : 2 ≤ b) (hbw : b < 2 ^ 50) :
    ∃ ps : List (List Int), callI (TT X) d (.fn 15) none [vi a, .int b, .int w, .fn 29] = some (.list (ps.map vi), []) ∧ Pows w b ps ∧ n < b ^ 2 ^ ps.length ∧ ∀ i, i < ps.length → b ^ 2 ^ i ≤ n := by
  obtain ⟨d, rfl⟩ := Nat.exists_eq_add_of_le' (show 1 ≤ d by with_reducible exact Nat.le_trans (Nat.le_add_left _ _) (by assumption))
  have hB := hw.two
  have la : a.length ≤ lenLim := by have := Big.len hw ha hn; unfold lenLim; with_reducible exact le_dn (by assumption) (by decide)
  obtain ⟨p0, e0, hp0⟩ := nat_of_spec (X := X) (d := d) (n := b) (by with_reducible exact le_up (by assumption) (by decide)) hw (by with_reducible exact zle_tr (by assumption) (by decide)) (by with_reducible exact zlt_dn (by assumption) (by decide))
  have L : ∃ f', xS (callI (TT X) d) l_base_powers_1 [.val (vi a), .val (.int b), .val (.int w), .val (.fn 29), .own [], .val (vi p0)] = some (.next, f') ∧ ∃ (ps : List (List Int)) (s : Slot), f' = [.val (vi a), .val (.int b), .val (.int w), .val (.fn 29), .own (ps.map vi), s] ∧ Pows w b ps ∧ n < b ^ 2 ^ ps.length ∧ ∀ i, i < ps.length → b ^ 2 ^ i ≤ n := by
    rw [l_base_powers_1, xS_wh]
    refine while_inv (fun k fr => ∃ (ps : List (List Int)) (p : List Int), fr = [.val (vi a), .val (.int b), .val (.int w), .val (.fn 29), .own (ps.map vi), .val (vi p)] ∧ Pows w b ps ∧ Num (2 ^ w) (b ^ 2 ^ ps.length) p ∧ p.length ≤ 2000 ∧ (∀ i, i < ps.length → b ^ 2 ^ i ≤ n) ∧ (n + 1 - b ^ 2 ^ ps.length).toNat = k) _ ?_ _ _ ⟨[], p0, rfl, .nil, by rw [List.length_nil, Nat.pow_zero, Int.pow_succ, Int.pow_zero, Int.one_mul]; exact hp0, by have := hp0.lenB (k := 60) hw (by with_reducible exact zlt_dn (by assumption) (by decide)); with_reducible exact le_dn (by assumption) (by decide), fun i h => by simp at h, rfl⟩
    rintro k fr ⟨ps, p, rfl, hps, hp, lp, hle, rfl⟩
    have hc := compare_spec (X := X) (d := d) (by with_reducible exact le_up (by assumption) (by decide)) (by with_reducible exact zlt_tr (by assumption) (by decide)) hp ha (by unfold lenLim; with_reducible exact le_dn (by assumption) (by decide)) la
    have hge := pw_ge hb ps.length
    by_cases hx : b ^ 2 ^ ps.length ≤ n
    · right
      have hcv : cmpR (b ^ 2 ^ ps.length) n ≤ 0 := by unfold cmpR; split; decide; split <;> omega
      have lp' := Big.len hw hp (by unfold Big at *; with_reducible exact Int.lt_of_le_of_lt (by assumption) (by assumption))
      obtain ⟨p2, e2, hp2⟩ := mul_spec (X := X) (d := d) (by with_reducible exact le_up (by assumption) (by decide)) hw hp hp (by unfold lenLim; omega)
      rw [sq_pow] at hp2
      have lps : ps.length ≤ lenLim := by
        have := pow_len (N := 1000) (k := ps.length) hb (by unfold Big at hn; with_reducible exact Int.lt_of_le_of_lt (by assumption) (by assumption))
        have := Nat.lt_two_pow_self (n := ps.length)
        unfold lenLim; omega
      have hsq : b ^ 2 ^ ps.length * 2 ≤ b ^ 2 ^ ps.length * b ^ 2 ^ ps.length := Int.mul_le_mul_of_nonneg_left hge (by with_reducible exact zle_tr (by assumption) (by decide))
      rw [sq_pow] at hsq
      have lp2 : p2.length ≤ 2000 := hp2.lenB hw (by
        rw [← sq_pow]
        have h1 : b ^ 2 ^ ps.length * b ^ 2 ^ ps.length ≤ b ^ 2 ^ ps.length * 2 ^ 1000 := Int.mul_le_mul_of_nonneg_left (by unfold Big at hn; with_reducible exact Int.le_trans (by assumption) (Int.le_of_lt (by assumption))) (by omega)
        have h2 : b ^ 2 ^ ps.length * 2 ^ 1000 < 2 ^ 1000 * 2 ^ 1000 := Int.mul_lt_mul_of_pos_right (by unfold Big at hn; with_reducible exact Int.lt_of_le_of_lt (by assumption) (by assumption)) (pow_pos' (by with_reducible decide) _)
        rw [← Int.pow_add] at h2
        exact Int.lt_of_le_of_lt h1 h2)
      refine ⟨_, _, (n + 1 - b ^ 2 ^ (ps.length + 1)).toNat, by unfold l_base_powers_1t; (simp! [hc, hcv] <;> rfl), .inl (by unfold l_base_powers_1b; (simp! [lps, e2, push_vi] <;> rfl)), ?_, ps ++ [p], p2, rfl, hps.push hp, by simpa using hp2, lp2, ?_, by simp⟩
      · omega
      · intro i hi
        rw [List.length_append, List.length_singleton] at hi
        by_cases h : i = ps.length
        · rw [h]; exact hx
        · exact hle i (by omega)
    · left
      have hcv : ¬ cmpR (b ^ 2 ^ ps.length) n ≤ 0 := by unfold cmpR; rw [if_neg (by omega), if_neg (by omega)]; decide
      exact ⟨_, by unfold l_base_powers_1t; (simp! [hc, hcv] <;> rfl), ps, _, rfl, hps, by with_reducible exact Int.not_le.mp (by assumption), hle⟩
  obtain ⟨f', e, ps, s, rfl, h1, h2, h3⟩ := L
  exact ⟨ps, call_go (fd := d_base_powers) (TT_tab (by decide) rfl) rfl rfl (fl := .ret (.list (ps.map vi))) ⟨_, by show xSs _ b_base_powers _ = _; unfold b_base_powers; (simp! [e0, e] <;> rfl)⟩ rfl, h1, h2, h3⟩

theorem with_noughts_spec {X : Option FDef} {d m : Nat} {ds : List Int} (hd : 1 ≤ d) (hl : ds.length ≤ m) (hm : m ≤ 100000) :
    callI (TT X) d (.fn 16) none [vi ds, .int m] = some (vi (List.replicate (m - ds.length) 0 ++ ds), []) := by
  obtain ⟨d, rfl⟩ := Nat.exists_eq_add_of_le' hd
  have ld : ds.length ≤ lenLim := by unfold lenLim; omega
  have hrep : bin .mul (.list [.int 0]) (.int ((m : Int) - (ds.length : Int))) = some (.fresh ((List.replicate (m - ds.length) 0).map .int)) := by
    rw [show ((m : Int) - (ds.length : Int)) = ((m - ds.length : Nat) : Int) from by with_reducible exact (Int.ofNat_sub (by assumption)).symm]; exact bin_rep (by unfold lenLim; omega)
  have hcat : bin .add (.list ((List.replicate (m - ds.length) 0).map V.int)) (.list (ds.map V.int)) = some (.fresh ((List.replicate (m - ds.length) 0 ++ ds).map .int)) := bin_cat (by simp; unfold lenLim; omega)
  exact call_go (fd := d_with_noughts) (TT_tab (by decide) rfl) rfl rfl (fl := .ret (vi _)) ⟨_, by show xSs _ b_with_noughts _ = _; unfold b_with_noughts; (simp! [ld, hrep, hcat] <;> rfl)⟩ rfl
theorem item_end {vs : List V} {v : V} : item (vs ++ [v]) (-1) = some v := by
  unfold item
  rw [if_pos (by decide), if_neg (by with_reducible decide), if_pos (by simp; omega)]
  rw [show (((vs ++ [v]).length : Int) + -1).toNat = vs.length from by simp only [List.length_append, List.length_singleton]; omega]
  simp
theorem cut_init {vs : List V} {v : V} : cutI (vs ++ [v]) none (some (-1)) = vs := by
  unfold cutI
  simp only [Option.elim]
  rw [show (-1 : Int) = -((1 : Nat) : Int) from rfl, PySem.clipAt_neg _ 1 (by with_reducible exact Nat.le_refl _)]
  simp

theorem digits_by_powers_spec {X : Option FDef} {w : Nat} {b : Int} {least : Int} (hw : W w) (hb : 2 ≤ b) (hbw : b < 2 ^ w) : ∀ (k : Nat) (ps : List (List Int)) (d : Nat) (a : List Int) (n : Int), ps.length = k → k + 5 ≤ d → Num (2 ^ w) n a → Big n → Pows w b ps → (ps ≠ [] → n < b ^ 2 ^ k) → (∀ i, i < k → Big (b ^ 2 ^ i)) →
    ∃ f, callI (TT X) d (.fn 17) none [vi a, .list (ps.map vi), .int b, .int w, .int least, .fn 35] = some (vi f.reverse, []) ∧ Num b n f := by
  intro k
  induction k with
  | zero =>
    intro ps d a n hk hd ha hn hp hlt hbig
    obtain ⟨d, rfl⟩ := Nat.exists_eq_add_of_le' (show 1 ≤ d by with_reducible exact Nat.le_trans (Nat.le_add_left _ _) (by assumption))
    have hps : ps = [] := List.eq_nil_of_length_eq_zero hk
    subst hps
    have la : a.length ≤ lenLim := by have := Big.len hw ha hn; unfold lenLim; with_reducible exact le_dn (by assumption) (by decide)
    obtain ⟨f, e, hf⟩ := digits_plain_spec (X := X) (d := d) (g := .fn 35) (by with_reducible exact le_up (by assumption) (by decide)) hw ha hn hb hbw
    by_cases hl : (a.length : Int) ≤ least
    · exact ⟨f, call_go (fd := d_digits_by_powers) (TT_tab (by decide) rfl) rfl rfl (fl := .ret (vi f.reverse)) ⟨_, by show xSs _ b_digits_by_powers _ = _; unfold b_digits_by_powers; (simp! [la, hl, e] <;> rfl)⟩ rfl, hf⟩
    · exact ⟨f, call_go (fd := d_digits_by_powers) (TT_tab (by decide) rfl) rfl rfl (fl := .ret (vi f.reverse)) ⟨_, by show xSs _ b_digits_by_powers _ = _; unfold b_digits_by_powers; (simp! [la, hl, List.length_nil, Nat.zero_le, Int.natCast_zero, e] <;> rfl)⟩ rfl, hf⟩
  | succ k ih =>
    intro ps d a n hk hd ha hn hp hlt hbig
    obtain ⟨d, rfl⟩ := Nat.exists_eq_add_of_le' (show 1 ≤ d by with_reducible exact Nat.le_trans (Nat.le_add_left _ _) (by assumption))
    have hB := hw.two
    have la : a.length ≤ 1000 := Big.len hw ha hn
    have la' : a.length ≤ lenLim := by unfold lenLim; with_reducible exact le_dn (by assumption) (by decide)
    by_cases hl : (a.length : Int) ≤ least
    · obtain ⟨f, e, hf⟩ := digits_plain_spec (X := X) (d := d) (g := .fn 35) (by omega) hw ha hn hb hbw
      exact ⟨f, call_go (fd := d_digits_by_powers) (TT_tab (by decide) rfl) rfl rfl (fl := .ret (vi f.reverse)) ⟨_, by show xSs _ b_digits_by_powers _ = _; unfold b_digits_by_powers; (simp! [la', hl, e] <;> rfl)⟩ rfl, hf⟩
    · have hne : ps ≠ [] := fun e => by subst e; simp at hk
      obtain ⟨qs, p, rfl⟩ : ∃ qs p, ps = qs ++ [p] := ⟨ps.dropLast, ps.getLast hne, (List.dropLast_concat_getLast hne).symm⟩
      have hqk : qs.length = k := by simp at hk; with_reducible assumption
      have hpn : Num (2 ^ w) (b ^ 2 ^ k) p := hp k p (by rw [← hqk]; simp)
      have hqp : Pows w b qs := fun i q e => hp i q (by rw [List.getElem?_append_left (List.getElem?_eq_some_iff.mp e).1]; exact e)
      have hpb := hbig k (by omega)
      have lp : p.length ≤ 1000 := Big.len hw hpn hpb
      have hlt' := hlt hne
      have hk1000 := pow_len hb hpb
      have hklt := Nat.lt_two_pow_self (n := k)
      have hm : (List.map vi (qs ++ [p])) = qs.map vi ++ [vi p] := by simp
      have hml : ((qs ++ [p]).length : Int) - 1 = (k : Int) := by simp; omega
      have hm0 : ¬ (((qs ++ [p]).length : Int) = 0) := by simp; omega
      have lqs : (qs ++ [p]).length ≤ lenLim := by simp; unfold lenLim; omega
      have hml2 : (qs.map vi ++ [vi p]).length = (qs ++ [p]).length := by simp
      have hshl : binI .shl 1 (k : Int) = some ((2 ^ k : Nat) : Int) := by
        rw [binI_shl (by omega) (by decide), Int.one_mul]
        push_cast; rfl
      have hc := compare_spec (X := X) (d := d) (by omega) (by with_reducible exact zlt_tr (by assumption) (by decide)) ha hpn la' (by unfold lenLim; with_reducible exact le_dn (by assumption) (by decide))
      rw [hm]
      by_cases hnp : n < b ^ 2 ^ k
      · have hcv : cmpR n (b ^ 2 ^ k) < 0 := by unfold cmpR; rw [if_pos hnp]; decide
        obtain ⟨f, e, hf⟩ := ih qs d a n hqk (by omega) ha hn hqp (fun _ => hnp) (fun i hi => hbig i (by with_reducible exact Nat.lt_succ_of_lt (by assumption)))
        exact ⟨f, call_go (fd := d_digits_by_powers) (TT_tab (by decide) rfl) rfl rfl (fl := .ret (vi f.reverse)) ⟨_, by show xSs _ b_digits_by_powers _ = _; unfold b_digits_by_powers; (simp! [la', hl, lqs, hml2, hm0, hml, hshl, item_end, cut_init, hc, hcv, e] <;> rfl)⟩ rfl, hf⟩
      · have hcv : ¬ cmpR n (b ^ 2 ^ k) < 0 := by unfold cmpR; rw [if_neg hnp]; split <;> with_reducible decide
        have hpge := pw_ge hb k
        have n0 := ha.nonneg (by with_reducible exact zlt_tr (by assumption) (by decide))
        obtain ⟨q, r, e1, hq, hr⟩ := divrem_spec (X := X) (d := d) (by omega) hw ha hpn (by unfold lenLim; omega) (by unfold lenLim; with_reducible exact lt_dn (by assumption) (by decide)) (show 0 < b ^ 2 ^ k by with_reducible exact zlt_tr (by assumption) (by decide))
        have hmd := md (a := n) (b := b ^ 2 ^ k) (by omega)
        have hdm := dm n (b ^ 2 ^ k)
        have hq0 := div_nn (a := n) (b := b ^ 2 ^ k) (by omega) n0
        have hqlt : n / b ^ 2 ^ k < b ^ 2 ^ k := div_lt (by omega) (by rw [sq_pow]; exact hlt')
        have hq1 : 1 ≤ n / b ^ 2 ^ k := by
          rcases Int.lt_or_le (n / b ^ 2 ^ k) 1 with h | h
          · have : n / b ^ 2 ^ k = 0 := by omega
            rw [this, Int.mul_zero] at hdm; omega
          · exact h
        obtain ⟨fh, e2, hfh⟩ := ih qs d q _ hqk (by omega) hq (by unfold Big at *; with_reducible exact Int.lt_trans (by assumption) (by assumption)) hqp (fun _ => hqlt) (fun i hi => hbig i (by with_reducible exact Nat.lt_succ_of_lt (by assumption)))
        obtain ⟨fl, e3, hfl⟩ := ih qs d r _ hqk (by omega) hr (by unfold Big at *; omega) hqp (fun _ => hmd.2) (fun i hi => hbig i (by with_reducible exact Nat.lt_succ_of_lt (by assumption)))
        have lfl : fl.length ≤ 2 ^ k := hfl.len (by with_reducible exact zlt_tr (by assumption) (by decide)) hmd.2
        have lfh : fh.length ≤ 1000 := hfh.len (by with_reducible exact zlt_tr (by assumption) (by decide)) (by have := two_pow_le hb 1000; unfold Big at hpb; omega)
        have e4 := with_noughts_spec (X := X) (d := d) (m := 2 ^ k) (ds := fl.reverse) (by omega) (by simpa using lfl) (by omega)
        have hcat : bin .add (.list (fh.reverse.map V.int)) (.list ((List.replicate (2 ^ k - fl.reverse.length) 0 ++ fl.reverse).map V.int)) = some (.fresh ((fh.reverse ++ (List.replicate (2 ^ k - fl.reverse.length) 0 ++ fl.reverse)).map .int)) := bin_cat (by simp; unfold lenLim; omega)
        have hrev : (fl ++ List.replicate (2 ^ k - fl.length) 0 ++ fh).reverse = fh.reverse ++ (List.replicate (2 ^ k - fl.reverse.length) 0 ++ fl.reverse) := by simp [List.reverse_replicate]
        have hfhne : fh ≠ [] := fun e => by have := (hfh.nil_iff (by with_reducible exact zlt_tr (by assumption) (by decide))).mp e; omega
        refine ⟨fl ++ List.replicate (2 ^ k - fl.length) 0 ++ fh, call_go (fd := d_digits_by_powers) (TT_tab (by decide) rfl) rfl rfl (fl := .ret (vi _)) ⟨_, by show xSs _ b_digits_by_powers _ = _; unfold b_digits_by_powers; rw [hrev]; (simp! [la', hl, lqs, hml2, hm0, hml, hshl, item_end, cut_init, hc, hcv, e1, e2, e3, e4, hcat] <;> rfl)⟩ rfl, ?_, ?_, ?_⟩
        · exact (hfl.dig.append fun x hx => by rw [(List.mem_replicate.mp hx).2]; omega).append hfh.dig
        · intro h
          rw [List.getLast?_append, List.getLast?_eq_some_getLast hfhne] at h
          exact hfh.nz (by rw [List.getLast?_eq_some_getLast hfhne]; exact h)
        · rw [val_append, val_append, val_zeros, Int.mul_zero, Int.add_zero, hfl.val, hfh.val, List.length_append, List.length_replicate, show fl.length + (2 ^ k - fl.length) = 2 ^ k from (by first | exact Nat.add_sub_cancel' (by assumption) | omega)]
          with_reducible assumption
theorem to_digits_spec {X : Option FDef} {w d : Nat} {a : List Int} {n b least : Int} (hw : W w) (hb : 2 ≤ b) (hbw : b < 2 ^ w) (ha : Num (2 ^ w) n a) (hn : Big n) (hd : 20 ≤ d) :
    ∃ f, callI (TT X) d (.fn 18) none [vi a, .int b, .int w, .int least, .fn 35, .fn 29] = some (vi f.reverse, []) ∧ Num b n f := by
  obtain ⟨d, rfl⟩ := Nat.exists_eq_add_of_le' (show 1 ≤ d by with_reducible exact Nat.le_trans (Nat.le_add_left _ _) (by assumption))
  have hT := hw.top
  have la : a.length ≤ lenLim := by have := Big.len hw ha hn; unfold lenLim; with_reducible exact le_dn (by assumption) (by decide)
  have e0 := check_base_spec (X := X) (d := d) (by with_reducible exact le_up (by assumption) (by decide)) hb
  by_cases hl : least < (a.length : Int)
  · obtain ⟨ps, e1, hp, hlt, hle⟩ := base_powers_spec (X := X) (d := d) (by with_reducible exact le_up (by assumption) (by decide)) hw ha hn hb (by omega)
    have lps : ps.length ≤ 10 := by
      rcases Nat.eq_zero_or_pos ps.length with h | h
      · omega
      · have h1 := hle (ps.length - 1) (by with_reducible exact Nat.sub_lt (by assumption) (by decide))
        have := pow_len (N := 1000) hb (k := ps.length - 1) (by unfold Big at hn; with_reducible exact Int.lt_of_le_of_lt (by assumption) (by assumption))
        rcases Nat.lt_or_ge (ps.length - 1) 10 with q | q
        · omega
        · have := Nat.pow_le_pow_right (show 0 < 2 by with_reducible exact Nat.succ_pos _) q
          omega
    obtain ⟨f, e2, hf⟩ := digits_by_powers_spec (X := X) (least := least) hw hb hbw ps.length ps d a n rfl (by omega) ha hn hp (fun _ => hlt) (fun i hi => by have := hle i hi; unfold Big at *; with_reducible exact Int.lt_of_le_of_lt (by assumption) (by assumption))
    exact ⟨f, call_go (fd := d_to_digits) (TT_tab (by decide) rfl) rfl rfl (fl := .ret (vi f.reverse)) ⟨_, by show xSs _ b_to_digits _ = _; unfold b_to_digits; (simp! [e0, la, hl, e1, e2] <;> rfl)⟩ rfl, hf⟩
  · obtain ⟨f, e2, hf⟩ := digits_by_powers_spec (X := X) (least := least) hw hb hbw 0 [] d a n rfl (by with_reducible exact le_up (by assumption) (by decide)) ha hn .nil (fun h => absurd rfl h) (fun i hi => by omega)
    have e2' : callI (TT X) d (.fn 17) none [vi a, .list [], .int b, .int w, .int least, .fn 35] = some (vi f.reverse, []) := e2
    exact ⟨f, call_go (fd := d_to_digits) (TT_tab (by decide) rfl) rfl rfl (fl := .ret (vi f.reverse)) ⟨_, by show xSs _ b_to_digits _ = _; unfold b_to_digits; (simp! [e0, la, hl, e2'] <;> rfl)⟩ rfl, hf⟩
end Mine
end PSp12

section PSp13
namespace Mine

theorem times_base_spec {X : Option FDef} {d w : Nat} {a : List Int} {n b : Int} {g : V} (hd : 2 ≤ d) (hw : W w) (ha : Num (2 ^ w) n a) (hn : Big n) (hb : 2 ≤ b) (hbw : b < 2 ^ w) :
    ∃ c, callI (TT X) d (.fn 19) none [vi a, .int b, .int w, g] = some (vi c, []) ∧ Num (2 ^ w) (n * b) c := by
  obtain ⟨d, rfl⟩ := Nat.exists_eq_add_of_le' (show 1 ≤ d by with_reducible exact Nat.le_of_succ_le (by assumption))
  have la : a.length < lenLim := by have := Big.len hw ha hn; unfold lenLim; with_reducible exact lt_dn (by assumption) (by decide)
  obtain ⟨c, e, hc⟩ := mul_limb_spec (X := X) (d := d) (m := b) (by with_reducible exact le_up (by assumption) (by decide)) hw ha la (by with_reducible exact zlt_tr (by assumption) (by decide)) hbw
  exact ⟨c, call_go (fd := d_times_base) (TT_tab (by decide) rfl) rfl rfl (fl := .ret (vi c)) ⟨_, by show xSs _ b_times_base _ = _; unfold b_times_base; (simp! [msk hw, hbw, e] <;> rfl)⟩ rfl, hc⟩

theorem rev_lt {b : Int} (hb : 2 ≤ b) {p : List Int} {N : Nat} (hp : Dig b p) (h : p.length ≤ N) (hbig : b ^ N < 2 ^ 1000) : Big (val b p.reverse) := by
  have h1 := val_lt (by with_reducible exact zlt_tr (by assumption) (by decide)) (hp.sub (r := p.reverse) (by simp))
  rw [List.length_reverse] at h1
  have h2 := pow_mono (show 0 < b by with_reducible exact zlt_tr (by assumption) (by decide)) h
  unfold Big
  omega

theorem number_plain_spec {X : Option FDef} {d w : Nat} {ds : List Int} {b : Int} {g : V} (hd : 3 ≤ d) (hw : W w) (hds : Dig b ds) (hb : 2 ≤ b) (hbw : b < 2 ^ w) (hbig : b ^ ds.length < 2 ^ 1000) :
    ∃ c, callI (TT X) d (.fn 20) none [vi ds, .int b, .int w, g] = some (vi c, []) ∧ Num (2 ^ w) (val b ds.reverse) c := by
  obtain ⟨d, rfl⟩ := Nat.exists_eq_add_of_le' (show 1 ≤ d by with_reducible exact Nat.le_trans (Nat.le_add_left _ _) (by assumption))
  have hB := hw.two
  have hT := hw.top
  have lds : ds.length < 1000 := by
    rcases Nat.lt_or_ge ds.length 1000 with q | q
    · exact q
    · have h1 := two_pow_le hb ds.length
      have h2 := pow_mono (show (0 : Int) < 2 by with_reducible decide) q
      omega
  have L : ∃ f', xS (callI (TT X) d) l_number_plain_1 [.val (vi ds), .val (.int b), .val (.int w), .val g, .own [], .unset] = some (.next, f') ∧ ∃ c s t, f' = [.val (vi ds), .val (.int b), .val (.int w), .val g, s, t] ∧ (s = .own (c.map .int) ∨ s = .val (vi c)) ∧ Num (2 ^ w) (val b ds.reverse) c := by
    have hf := xS_forL (C := callI (TT X) d) (i := 5) (e := .var 0) (s := l_number_plain_1b) (fr := [.val (vi ds), .val (.int b), .val (.int w), .val g, .own [], .unset]) (vs := ds.map .int) (by (simp! [] <;> rfl)) (by simp; unfold lenLim; omega)
    rw [l_number_plain_1, hf]
    obtain ⟨f', e, hF⟩ := for_ints (body := stepR (callI (TT X) d) 5 l_number_plain_1b) (fun r fr => ∀ G : Prop, (∀ p c s t, fr = [.val (vi ds), .val (.int b), .val (.int w), .val g, s, t] → ((s = .own (c.map .int) ∨ s = .val (vi c))) → setOk (some t) = true → ds = p ++ r → Num (2 ^ w) (val b p.reverse) c → G) → G) (by
      intro x r fr hI
      refine hI _ fun p c s t e4 hs ht hp hc => ?_
      subst e4
      have hx := hds x (by rw [hp]; simp)
      have hpd : Dig b p := hds.sub (by rw [hp]; simp +contextual)
      have hpl : p.length + 1 ≤ ds.length := by rw [hp, List.length_append, List.length_cons]; omega
      have hcb := rev_lt hb hpd (show p.length ≤ ds.length by with_reducible exact Nat.le_of_succ_le (by assumption)) hbig
      obtain ⟨c1, e1, hc1⟩ := times_base_spec (X := X) (d := d) (g := g) (by with_reducible exact le_up (by assumption) (by decide)) hw hc hcb hb hbw
      obtain ⟨c2, e2, hc2⟩ := nat_of_spec (X := X) (d := d) (n := x) (by with_reducible exact le_up (by assumption) (by decide)) hw hx.1 (by omega)
      have hpd2 : Dig b (p ++ [x]) := hpd.push hx
      have hrv : val b (p ++ [x]).reverse = val b p.reverse * b + x := by
        rw [List.reverse_append]
        simp only [List.reverse_cons, List.reverse_nil, List.nil_append, List.cons_append, val]
        rw [Int.mul_comm]; omega
      have hbig2 := rev_lt hb hpd2 (N := ds.length) (by simp; with_reducible assumption) hbig
      rw [hrv] at hbig2
      have l1 : c1.length < lenLim := by have := Big.len hw hc1 (by unfold Big at *; omega); unfold lenLim; with_reducible exact lt_dn (by assumption) (by decide)
      have l2 : c2.length < lenLim := by have := hc2.lenB (k := 60) hw (by omega); unfold lenLim; with_reducible exact lt_dn (by assumption) (by decide)
      obtain ⟨c3, e3, hc3⟩ := add_spec (X := X) (d := d) (by with_reducible exact le_up (by assumption) (by decide)) hw hc1 hc2 l1 l2
      rw [← hrv] at hc3
      rcases hs with rfl | rfl
      · exact ⟨_, by unfold stepR l_number_plain_1b; (simp! [ht, e1, e2, e3] <;> rfl), fun _ KK => KK (p ++ [x]) c3 (.val (vi c3)) (.val (.int x)) rfl (.inr rfl) rfl (by rw [hp]; simp) hc3⟩
      · exact ⟨_, by unfold stepR l_number_plain_1b; (simp! [ht, e1, e2, e3] <;> rfl), fun _ KK => KK (p ++ [x]) c3 (.val (vi c3)) (.val (.int x)) rfl (.inr rfl) rfl (by rw [hp]; simp) hc3⟩) ds _ (fun _ KK => KK ([]) ([]) (.own []) .unset rfl (.inl rfl) rfl rfl Num.zero)
    refine hF _ fun p c s t e4 hs ht h1 h2 => ?_
    subst e4
    simp at h1
    subst h1
    exact ⟨_, e, c, s, t, rfl, hs, h2⟩
  obtain ⟨f', e, c, s, t, rfl, hs, hc⟩ := L
  rcases hs with rfl | rfl
  · exact ⟨c, call_go (fd := d_number_plain) (TT_tab (by decide) rfl) rfl rfl (fl := .ret (vi c)) ⟨_, by show xSs _ b_number_plain _ = _; unfold b_number_plain; (simp! [e] <;> rfl)⟩ rfl, hc⟩
  · exact ⟨c, call_go (fd := d_number_plain) (TT_tab (by decide) rfl) rfl rfl (fl := .ret (vi c)) ⟨_, by show xSs _ b_number_plain _ = _; unfold b_number_plain; (simp! [e] <;> rfl)⟩ rfl, hc⟩

theorem cut_drop {l : List Int} {e : Nat} (h : e ≤ l.length) : cutI (l.map V.int) (some (e : Int)) none = (l.drop e).map V.int := by
  unfold cutI
  simp only [Option.elim, List.length_map]
  rw [PySem.clipAt_nat, Nat.min_eq_left h, List.map_drop]
  exact List.take_of_length_le (by simp)

theorem number_by_powers_spec {X : Option FDef} {w : Nat} {b least : Int} {ps : List (List Int)} (hw : W w) (hb : 2 ≤ b) (hbw : b < 2 ^ w) (hps : Pows w b ps) (hpb : ∀ i, i < ps.length → Big (b ^ 2 ^ i)) (lps : ps.length ≤ 1000) :
    ∀ (N d : Nat) (ds : List Int), ds.length ≤ N → N + 4 ≤ d → Dig b ds → b ^ ds.length < 2 ^ 1000 →
    ∃ c, callI (TT X) d (.fn 21) none [vi ds, .list (ps.map vi), .int b, .int w, .int least, .fn 29] = some (vi c, []) ∧ Num (2 ^ w) (val b ds.reverse) c := by
  intro N
  induction N with
  | zero =>
    intro d ds hl hd hds hbig
    have : ds = [] := List.eq_nil_of_length_eq_zero (by omega)
    subst this
    obtain ⟨d, rfl⟩ := Nat.exists_eq_add_of_le' (show 1 ≤ d by with_reducible exact Nat.le_trans (Nat.le_add_left _ _) (by assumption))
    obtain ⟨c, e, hc⟩ := number_plain_spec (X := X) (d := d) (g := .fn 29) (by with_reducible exact le_up (by assumption) (by decide)) hw hds hb hbw hbig
    have lp : ps.length ≤ lenLim := by unfold lenLim; with_reducible exact le_dn (by assumption) (by decide)
    have L : ∃ f', xS (callI (TT X) d) l_number_by_powers_1 [.val (vi []), .val (.list (ps.map vi)), .val (.int b), .val (.int w), .val (.int least), .val (.fn 29), .val (.int ((ps.length : Int) - 1)), .unset, .unset, .unset] = some (.next, f') ∧ f' = [.val (vi []), .val (.list (ps.map vi)), .val (.int b), .val (.int w), .val (.int least), .val (.fn 29), .val (.int (-1)), .unset, .unset, .unset] := by
      rw [l_number_by_powers_1, xS_wh]
      refine while_inv (fun k fr => ∃ t : Int, fr = [.val (vi []), .val (.list (ps.map vi)), .val (.int b), .val (.int w), .val (.int least), .val (.fn 29), .val (.int t), .unset, .unset, .unset] ∧ -1 ≤ t ∧ t < ps.length ∧ (t + 1).toNat = k) _ ?_ _ _ ⟨(ps.length : Int) - 1, rfl, by omega, by with_reducible exact bm2, rfl⟩
      rintro k fr ⟨t, rfl, h1, h2, rfl⟩
      by_cases ht : 0 ≤ t
      · obtain ⟨t, rfl⟩ := Int.eq_ofNat_of_zero_le ht
        right
        have hsh := binI_shl (a := 1) (n := t) (by omega) (by decide)
        have hp := pow_pos' (show (0 : Int) < 2 by with_reducible decide) t
        have h0 : ((0 : Nat) : Int) ≤ 1 * 2 ^ t := by omega
        exact ⟨_, _, ((t : Int) - 1 + 1).toNat, by unfold l_number_by_powers_1t; (simp! [ht, hsh, Nat.zero_le, List.length_nil, h0] <;> rfl), .inl (by unfold l_number_by_powers_1b; (simp! [] <;> rfl)), by omega, _, rfl, by omega, by omega, rfl⟩
      · left
        have : t = -1 := by omega
        subst this
        exact ⟨_, by unfold l_number_by_powers_1t; (simp! [ht] <;> rfl), rfl⟩
    obtain ⟨f', e1, rfl⟩ := L
    by_cases hle : ((0 : Nat) : Int) ≤ least
    · exact ⟨c, call_go (fd := d_number_by_powers) (TT_tab (by decide) rfl) rfl rfl (fl := .ret (vi c)) ⟨_, by show xSs _ b_number_by_powers _ = _; unfold b_number_by_powers; (simp! [lp, e1, List.length_nil, Nat.zero_le, hle, e] <;> rfl)⟩ rfl, hc⟩
    · exact ⟨c, call_go (fd := d_number_by_powers) (TT_tab (by decide) rfl) rfl rfl (fl := .ret (vi c)) ⟨_, by show xSs _ b_number_by_powers _ = _; unfold b_number_by_powers; (simp! [lp, e1, List.length_nil, Nat.zero_le, hle, e, Int.reduceNeg, Int.reduceLT] <;> rfl)⟩ rfl, hc⟩
  | succ N ih =>
    intro d ds hl hd hds hbig
    obtain ⟨d, rfl⟩ := Nat.exists_eq_add_of_le' (show 1 ≤ d by with_reducible exact Nat.le_trans (Nat.le_add_left _ _) (by assumption))
    have hB := hw.two
    have lp : ps.length ≤ lenLim := by unfold lenLim; omega
    have lds : ds.length < 1000 := by
      rcases Nat.lt_or_ge ds.length 1000 with q | q
      · exact q
      · have h1 := two_pow_le hb ds.length
        have h2 := pow_mono (show (0 : Int) < 2 by with_reducible decide) q
        omega
    have lds' : ds.length ≤ lenLim := by unfold lenLim; omega
    obtain ⟨c, e, hc⟩ := number_plain_spec (X := X) (d := d) (g := .fn 29) (by omega) hw hds hb hbw hbig
    have L : ∃ f', xS (callI (TT X) d) l_number_by_powers_1 [.val (vi ds), .val (.list (ps.map vi)), .val (.int b), .val (.int w), .val (.int least), .val (.fn 29), .val (.int ((ps.length : Int) - 1)), .unset, .unset, .unset] = some (.next, f') ∧ ∃ t : Int, f' = [.val (vi ds), .val (.list (ps.map vi)), .val (.int b), .val (.int w), .val (.int least), .val (.fn 29), .val (.int t), .unset, .unset, .unset] ∧ -1 ≤ t ∧ t < ps.length ∧ (0 ≤ t → 2 ^ t.toNat < ds.length) := by
      rw [l_number_by_powers_1, xS_wh]
      refine while_inv (fun k fr => ∃ t : Int, fr = [.val (vi ds), .val (.list (ps.map vi)), .val (.int b), .val (.int w), .val (.int least), .val (.fn 29), .val (.int t), .unset, .unset, .unset] ∧ -1 ≤ t ∧ t < ps.length ∧ (t + 1).toNat = k) _ ?_ _ _ ⟨(ps.length : Int) - 1, rfl, by omega, by with_reducible exact bm2, rfl⟩
      rintro k fr ⟨t, rfl, h1, h2, rfl⟩
      by_cases ht : 0 ≤ t
      · obtain ⟨t, rfl⟩ := Int.eq_ofNat_of_zero_le ht
        have hsh := binI_shl (a := 1) (n := t) (by omega) (by decide)
        have hcast : ((2 ^ t : Nat) : Int) = 2 ^ t := by push_cast; rfl
        by_cases hc : (ds.length : Int) ≤ 1 * 2 ^ t
        · right
          exact ⟨_, _, ((t : Int) - 1 + 1).toNat, by unfold l_number_by_powers_1t; (simp! [ht, hsh, lds', hc] <;> rfl), .inl (by unfold l_number_by_powers_1b; (simp! [] <;> rfl)), by omega, _, rfl, by omega, by omega, rfl⟩
        · left
          exact ⟨_, by unfold l_number_by_powers_1t; (simp! [ht, hsh, lds', hc] <;> rfl), _, rfl, h1, h2, fun _ => by rw [Int.toNat_natCast]; omega⟩
      · left
        exact ⟨_, by unfold l_number_by_powers_1t; (simp! [ht] <;> rfl), _, rfl, h1, h2, fun h => absurd h ht⟩
    obtain ⟨f', e1, t, rfl, h1, h2, h3⟩ := L
    by_cases hle : (ds.length : Int) ≤ least
    · exact ⟨c, call_go (fd := d_number_by_powers) (TT_tab (by decide) rfl) rfl rfl (fl := .ret (vi c)) ⟨_, by show xSs _ b_number_by_powers _ = _; unfold b_number_by_powers; (simp! [lp, e1, lds', hle, e] <;> rfl)⟩ rfl, hc⟩
    · by_cases ht : t < 0
      · exact ⟨c, call_go (fd := d_number_by_powers) (TT_tab (by decide) rfl) rfl rfl (fl := .ret (vi c)) ⟨_, by show xSs _ b_number_by_powers _ = _; unfold b_number_by_powers; (simp! [lp, e1, lds', hle, ht, e] <;> rfl)⟩ rfl, hc⟩
      · obtain ⟨t, rfl⟩ := Int.eq_ofNat_of_zero_le (show 0 ≤ t by with_reducible exact Int.not_lt.mp (by assumption))
        have h4 := h3 (by with_reducible exact Int.natCast_nonneg _)
        rw [Int.toNat_natCast] at h4
        have hsh := binI_shl (a := 1) (n := t) (by omega) (by decide)
        have hcast : ((2 ^ t : Nat) : Int) = 2 ^ t := by push_cast; rfl
        have h2t : 1 ≤ 2 ^ t := Nat.one_le_two_pow
        obtain ⟨m, hm⟩ : ∃ m, m = ds.length - 2 ^ t := ⟨_, rfl⟩
        have hmi : (ds.length : Int) - 1 * 2 ^ t = (m : Int) := by omega
        obtain ⟨p, hp⟩ : ∃ p, ps[t]? = some p := ⟨_, List.getElem?_eq_getElem (show t < ps.length by with_reducible exact Int.ofNat_lt.mp (by assumption))⟩
        have hpn := hps t p hp
        have hpB := hpb t (by with_reducible exact Int.ofNat_lt.mp (by assumption))
        have ip : item (ps.map vi) (t : Int) = some (vi p) := by
          unfold item
          rw [if_pos (by unfold lim; omega), if_pos (by with_reducible exact Int.natCast_nonneg _), Int.toNat_natCast, List.getElem?_map, hp]; rfl
        have hhl : (ds.take m).length = m := by simp; omega
        have hll : (ds.drop m).length = 2 ^ t := by simp; omega
        have hbm := pow_mono (show 0 < b by with_reducible exact zlt_tr (by assumption) (by decide)) (show m ≤ ds.length by omega)
        have hbt := pow_mono (show 0 < b by with_reducible exact zlt_tr (by assumption) (by decide)) (show 2 ^ t ≤ ds.length by with_reducible exact Nat.le_of_lt (by assumption))
        obtain ⟨ch, e2, hch⟩ := ih d (ds.take m) (by omega) (by omega) (hds.take m) (by rw [hhl]; with_reducible exact Int.lt_of_le_of_lt (by assumption) (by assumption))
        obtain ⟨cl, e3, hcl⟩ := ih d (ds.drop m) (by omega) (by omega) (hds.drop m) (by rw [hll]; with_reducible exact Int.lt_of_le_of_lt (by assumption) (by assumption))
        have hval : val b ds.reverse = val b (ds.take m).reverse * b ^ 2 ^ t + val b (ds.drop m).reverse := by
          conv => lhs; rw [← List.take_append_drop m ds, List.reverse_append, val_append, List.length_reverse, hll]
          rw [Int.mul_comm]; omega
        have bigA := rev_lt hb hds (Nat.le_refl _) hbig
        have b1 := rev_lt hb (hds.take m) (show _ ≤ ds.length by omega) hbig
        have b2 := rev_lt hb (hds.drop m) (show _ ≤ ds.length by with_reducible exact ex1 (by assumption) (Nat.le_of_lt (by assumption))) hbig
        have l1 := Big.len hw hch b1
        have l2 := Big.len hw hcl b2
        have l3 := Big.len hw hpn hpB
        obtain ⟨cm, e4, hcm⟩ := mul_spec (X := X) (d := d) (by omega) hw hch hpn (by unfold lenLim; omega)
        have n2 := hcl.nonneg (by with_reducible exact zlt_tr (by assumption) (by decide))
        have l4 := Big.len hw hcm (by unfold Big at *; omega)
        obtain ⟨cs, e5, hcs⟩ := add_spec (X := X) (d := d) (by omega) hw hcm hcl (by unfold lenLim; with_reducible exact lt_dn (by assumption) (by decide)) (by unfold lenLim; with_reducible exact lt_dn (by assumption) (by decide))
        rw [← hval] at hcs
        exact ⟨cs, call_go (fd := d_number_by_powers) (TT_tab (by decide) rfl) rfl rfl (fl := .ret (vi cs)) ⟨_, by show xSs _ b_number_by_powers _ = _; unfold b_number_by_powers; (simp! [lp, e1, lds', hle, ht, hsh, hmi, cut_take (show m ≤ ds.length by omega), cut_drop (show m ≤ ds.length by omega), e2, e3, ip, e4, e5] <;> rfl)⟩ rfl, hcs⟩

theorem from_digits_spec {X : Option FDef} {d w : Nat} {b least : Int} {ds : List Int} (hw : W w) (hb : 2 ≤ b) (hbw : b < 2 ^ w) (hd : ds.length + 6 ≤ d) (hds : Dig b ds) (hbig : b ^ ds.length < 2 ^ 1000) :
    ∃ c, callI (TT X) d (.fn 22) none [vi ds, .int b, .int w, .int least, .fn 29] = some (vi c, []) ∧ Num (2 ^ w) (val b ds.reverse) c := by
  obtain ⟨d, rfl⟩ := Nat.exists_eq_add_of_le' (show 1 ≤ d by with_reducible exact Nat.le_trans (Nat.le_add_left _ _) (by assumption))
  have hB := hw.two
  have hT := hw.top
  have lds : ds.length < 1000 := by
    rcases Nat.lt_or_ge ds.length 1000 with q | q
    · exact q
    · have h1 := two_pow_le hb ds.length
      have h2 := pow_mono (show (0 : Int) < 2 by with_reducible decide) q
      omega
  have lds' : ds.length ≤ lenLim := by unfold lenLim; omega
  have e0 := check_base_spec (X := X) (d := d) (by omega) hb
  have L2 : ∃ f', xS (callI (TT X) d) l_from_digits_2 [.val (vi ds), .val (.int b), .val (.int w), .val (.int least), .val (.fn 29), .unset, .unset] = some (.next, f') ∧ ∃ t, f' = [.val (vi ds), .val (.int b), .val (.int w), .val (.int least), .val (.fn 29), t, .unset] := by
    have hf := xS_forL (C := callI (TT X) d) (i := 5) (e := .var 0) (s := l_from_digits_2b) (fr := [.val (vi ds), .val (.int b), .val (.int w), .val (.int least), .val (.fn 29), .unset, .unset]) (vs := ds.map .int) (by (simp! [] <;> rfl)) (by simpa using lds')
    rw [l_from_digits_2, hf]
    obtain ⟨f', e, hF⟩ := for_ints (body := stepR (callI (TT X) d) 5 l_from_digits_2b) (fun r fr => ∀ G : Prop, (∀ p t, fr = [.val (vi ds), .val (.int b), .val (.int w), .val (.int least), .val (.fn 29), t, .unset] → setOk (some t) = true → ds = p ++ r → G) → G) (by
      intro x r fr hI
      refine hI _ fun p t e2 ht hp => ?_
      subst e2
      have hx := hds x (by rw [hp]; simp)
      exact ⟨_, by unfold stepR l_from_digits_2b; (simp! [ht, hx.1, hx.2] <;> rfl), fun _ KK => KK (p ++ [x]) (.val (.int x)) rfl rfl (by rw [hp]; simp)⟩) ds _ (fun _ KK => KK ([]) .unset rfl rfl rfl)
    refine hF _ fun p t e2 ht h1 => ?_
    subst e2
    exact ⟨_, e, t, rfl⟩
  obtain ⟨f', e1, t, rfl⟩ := L2
  by_cases hl : (if least < 1 then 1 else least) < (ds.length : Int)
  · have h2 : 2 ≤ ds.length := by split at hl <;> omega
    obtain ⟨p0, e2, hp0⟩ := nat_of_spec (X := X) (d := d) (n := b) (by omega) hw (by with_reducible exact zle_tr (by assumption) (by decide)) (by omega)
    have L1 : ∃ f', xS (callI (TT X) d) l_from_digits_1 [.val (vi ds), .val (.int b), .val (.int w), .val (.int least), .val (.fn 29), t, .own [vi p0]] = some (.next, f') ∧ ∃ (ps : List (List Int)), f' = [.val (vi ds), .val (.int b), .val (.int w), .val (.int least), .val (.fn 29), t, .own (ps.map vi)] ∧ Pows w b ps ∧ (∀ i, i < ps.length → 2 ^ i < ds.length) := by
      rw [l_from_digits_1, xS_wh]
      refine while_inv (fun k fr => ∃ (qs : List (List Int)) (p : List Int), fr = [.val (vi ds), .val (.int b), .val (.int w), .val (.int least), .val (.fn 29), t, .own (qs.map vi ++ [vi p])] ∧ Pows w b (qs ++ [p]) ∧ (∀ i, i < qs.length + 1 → 2 ^ i < ds.length) ∧ ds.length - 2 ^ qs.length = k) _ ?_ _ _ ⟨[], p0, rfl, Pows.nil.push (by rw [List.length_nil, Nat.pow_zero, Int.pow_succ, Int.pow_zero, Int.one_mul]; exact hp0), fun i hi => by simp at hi; subst hi; simp; with_reducible exact Nat.lt_of_succ_le (by assumption), rfl⟩
      rintro k fr ⟨qs, p, rfl, hps, hle, rfl⟩
      have hk := hle qs.length (by omega)
      have hk2 := Nat.lt_two_pow_self (n := qs.length)
      have hlen : (qs.map vi ++ [vi p]).length = qs.length + 1 := by simp
      have hlen' : ((qs.length + 1 : Nat) : Int) - 1 = (qs.length : Int) := by omega
      have lq : qs.length + 1 ≤ lenLim := by unfold lenLim; omega
      have hsh := binI_shl (a := 2) (n := qs.length) (by omega) (by decide)
      have hcast : ((2 ^ (qs.length + 1) : Nat) : Int) = 2 * 2 ^ qs.length := by push_cast; rw [Int.pow_succ]; omega
      by_cases hc : 2 * 2 ^ qs.length < (ds.length : Int)
      · right
        have hpn := hps qs.length p (by simp)
        have hb1 : Big (b ^ 2 ^ qs.length) := by have := pow_mono (show 0 < b by with_reducible exact zlt_tr (by assumption) (by decide)) (show 2 ^ qs.length ≤ ds.length by with_reducible exact Nat.le_of_lt (by assumption)); unfold Big; with_reducible exact Int.lt_of_le_of_lt (by assumption) (by assumption)
        have l1 := Big.len hw hpn hb1
        obtain ⟨p2, e3, hp2⟩ := mul_spec (X := X) (d := d) (by omega) hw hpn hpn (by unfold lenLim; omega)
        rw [sq_pow] at hp2
        have hpow : 2 ^ qs.length < 2 ^ (qs.length + 1) := Nat.pow_lt_pow_right (by with_reducible decide) (by omega)
        refine ⟨_, _, ds.length - 2 ^ (qs.length + 1), by unfold l_from_digits_1t; (simp! [hlen, hlen', lq, hsh, lds', hc] <;> rfl), .inl (by unfold l_from_digits_1b; (simp! [item_end, e3, hlen, lq] <;> rfl)), (by first | exact Nat.sub_lt_sub_left (by assumption) (Nat.pow_lt_pow_right (by decide) (Nat.lt_succ_self _)) | omega), qs ++ [p], p2, by simp, hps.push (by simpa using hp2), fun i hi => ?_, by simp⟩
        rw [List.length_append, List.length_singleton] at hi
        by_cases h : i = qs.length + 1
        · subst h; omega
        · exact hle i (by omega)
      · left
        exact ⟨_, by unfold l_from_digits_1t; (simp! [hlen, hlen', lq, hsh, lds', hc] <;> rfl), qs ++ [p], by simp, hps, by simpa using hle⟩
    obtain ⟨f', e3, ps, rfl, hps, hle⟩ := L1
    have lps : ps.length ≤ 1000 := by
      rcases Nat.eq_zero_or_pos ps.length with h | h
      · omega
      · have h1 := hle (ps.length - 1) (by with_reducible exact Nat.sub_lt (by assumption) (by decide))
        have := Nat.lt_two_pow_self (n := ps.length - 1)
        omega
    obtain ⟨c, e4, hc⟩ := number_by_powers_spec (X := X) (least := least) hw hb hbw hps (fun i hi => by
      have := pow_mono (show 0 < b by with_reducible exact zlt_tr (by assumption) (by decide)) (show 2 ^ i ≤ ds.length from Nat.le_of_lt (hle i hi))
      unfold Big; with_reducible exact Int.lt_of_le_of_lt (by assumption) (by assumption)) lps ds.length d ds (Nat.le_refl _) (by omega) hds hbig
    exact ⟨c, call_go (fd := d_from_digits) (TT_tab (by decide) rfl) rfl rfl (fl := .ret (vi c)) ⟨_, by show xSs _ b_from_digits _ = _; unfold b_from_digits; (simp! [e0, e1, lds', hl, e2, List.length_nil, Nat.zero_le, e3, e4] <;> rfl)⟩ rfl, hc⟩
  · obtain ⟨c, e4, hc⟩ := number_by_powers_spec (X := X) (least := least) hw hb hbw .nil (fun i hi => by simp at hi) (by simp) ds.length d ds (Nat.le_refl _) (by omega) hds hbig
    have e4' : callI (TT X) d (.fn 21) none [vi ds, .list [], .int b, .int w, .int least, .fn 29] = some (vi c, []) := e4
    exact ⟨c, call_go (fd := d_from_digits) (TT_tab (by decide) rfl) rfl rfl (fl := .ret (vi c)) ⟨_, by show xSs _ b_from_digits _ = _; unfold b_from_digits; (simp! [e0, e1, lds', hl, e4'] <;> rfl)⟩ rfl, hc⟩
end Mine
end PSp13

section PSp14
namespace Mine

/-! power -/
theorem bit_int {n k : Nat} : ((n : Int) / 2 ^ k) % 2 = ((n / 2 ^ k % 2 : Nat) : Int) := by push_cast; rfl
theorem half {n k : Nat} : n / 2 ^ k = 2 * (n / 2 ^ (k + 1)) + n / 2 ^ k % 2 := by
  rw [Nat.pow_succ, ← Nat.div_div_eq_div_mul]; omega
theorem one_num {w : Nat} (hw : W w) : Num (2 ^ w) 1 [1] := ⟨.cons ⟨by with_reducible decide, by have := hw.two; with_reducible exact zlt_tr (by assumption) (by decide)⟩ .nil, by simp [Nz], by simp [val]⟩
theorem power_spec {X : Option FDef} {d w n : Nat} {a : List Int} {x : Int} (hd : 3 ≤ d) (hw : W w) (ha : Num (2 ^ w) x a) (hx : 2 ≤ x) (hn : 0 < n) (hbig : Big (x ^ n)) :
    ∃ c, callI (TT X) d (.fn 23) none [vi a, .int n, .int w, .fn 29] = some (vi c, []) ∧ Num (2 ^ w) (x ^ n) c := by
  obtain ⟨d, rfl⟩ := Nat.exists_eq_add_of_le' (show 1 ≤ d by with_reducible exact Nat.le_trans (Nat.le_add_left _ _) (by assumption))
  have hB := hw.two
  have hneg : ¬ (n : Int) < 0 := by omega
  obtain ⟨j, ej, j0, jl, jh⟩ := bitLen_of (x := (n : Int)) (by omega)
  have jn : j < 1000 := by
    have h1 : n < 1000 := by
      rcases Nat.lt_or_ge n 1000 with q | q
      · exact q
      · have h1 := two_pow_le hx n
        have h2 := pow_mono (show (0 : Int) < 2 by with_reducible decide) q
        unfold Big at hbig; omega
    rcases Nat.lt_or_ge j 1000 with q | q
    · exact q
    · have h3 := pow_mono (show (0 : Int) < 2 by with_reducible decide) (show 10 ≤ j - 1 by omega)
      omega
  have L : ∃ f', xS (callI (TT X) d) l_power_1 [.val (vi a), .val (.int n), .val (.int w), .val (.fn 29), .own [.int 1], .unset] = some (.next, f') ∧ ∃ c s t, f' = [.val (vi a), .val (.int n), .val (.int w), .val (.fn 29), s, t] ∧ (s = .own (c.map .int) ∨ s = .val (vi c)) ∧ Num (2 ^ w) (x ^ n) c := by
    have hf := xS_forR (C := callI (TT X) d) (kind := 3) (i := 5) (lo := .bin .sub (.bitlen (.var 1)) (.int 1)) (hi := .neg (.int 1)) (s := l_power_1b) (fr := [.val (vi a), .val (.int n), .val (.int w), .val (.fn 29), .own [.int 1], .unset]) (a := (j : Int) - 1) (b := -1) (by (simp! [ej] <;> rfl)) (by (simp! [] <;> rfl)) (by unfold lim; omega) (by decide)
    rw [l_power_1, hf]
    obtain ⟨f', e, hF⟩ := for_dn (body := stepR (callI (TT X) d) 5 l_power_1b) (fun k fr => ∀ G : Prop, (∀ c s t, fr = [.val (vi a), .val (.int n), .val (.int w), .val (.fn 29), s, t] → ((s = .own (c.map .int) ∨ s = .val (vi c))) → setOk (some t) = true → Num (2 ^ w) (x ^ (n / 2 ^ (k + 1).toNat)) c → G) → G) (lo := (j : Int) - 1) (hi := -1) (by omega) (by
      intro k fr h1 h2 hI
      refine hI _ fun c s t e3 hs ht hc => ?_
      subst e3
      obtain ⟨k, rfl⟩ := Int.eq_ofNat_of_zero_le (show 0 ≤ k by omega)
      rw [show ((k : Int) + 1).toNat = k + 1 from by omega] at hc
      rw [show ((k : Int) - 1 + 1).toNat = k from by omega]
      have big : ∀ i, i ≤ n → Big (x ^ i) := fun i hi => by have := pow_mono (show 0 < x by with_reducible exact zlt_tr (by assumption) (by decide)) hi; unfold Big at *; with_reducible exact Int.lt_of_le_of_lt (by assumption) (by assumption)
      have hle : 2 * (n / 2 ^ (k + 1)) ≤ n := by have h1 := half (n := n) (k := k); have h2 := Nat.div_le_self n (2 ^ k); omega
      have lc := Big.len hw hc (big _ (by omega))
      obtain ⟨c2, e2, hc2⟩ := mul_spec (X := X) (d := d) (by with_reducible exact le_up (by assumption) (by decide)) hw hc hc (by unfold lenLim; omega)
      rw [← Int.pow_add] at hc2
      have hhalf := half (n := n) (k := k)
      have lc2 := Big.len hw hc2 (big _ (by omega))
      have la : a.length ≤ 1000 := Big.len hw ha (by have := big 1 hn; rwa [Int.pow_succ, Int.pow_zero, Int.one_mul] at this)
      obtain ⟨c3, e3, hc3⟩ := mul_spec (X := X) (d := d) (by with_reducible exact le_up (by assumption) (by decide)) hw hc2 ha (by unfold lenLim; omega)
      rw [← Int.pow_succ] at hc3
      have hbit := bit_int (n := n) (k := k)
      rcases (show n / 2 ^ k % 2 = 0 ∨ n / 2 ^ k % 2 = 1 by omega) with hb | hb
      · rw [hb] at hbit hhalf
        rw [hhalf, show 2 * (n / 2 ^ (k + 1)) + 0 = n / 2 ^ (k + 1) + n / 2 ^ (k + 1) from by omega]
        have hne : ¬ (((0 : Nat) : Int) = 1) := by decide
        rcases hs with rfl | rfl
        · exact ⟨_, by unfold stepR l_power_1b; (simp! [ht, e2, PyProof.Rows.bitAnd_m1, hbit, hne] <;> rfl), fun _ KK => KK c2 (.val (vi c2)) (.val (.int k)) rfl (.inr rfl) rfl hc2⟩
        · exact ⟨_, by unfold stepR l_power_1b; (simp! [ht, e2, PyProof.Rows.bitAnd_m1, hbit, hne] <;> rfl), fun _ KK => KK c2 (.val (vi c2)) (.val (.int k)) rfl (.inr rfl) rfl hc2⟩
      · rw [hb] at hbit hhalf
        rw [hhalf, show 2 * (n / 2 ^ (k + 1)) + 1 = n / 2 ^ (k + 1) + n / 2 ^ (k + 1) + 1 from by omega]
        have hye : ((1 : Nat) : Int) = 1 := by decide
        rcases hs with rfl | rfl
        · exact ⟨_, by unfold stepR l_power_1b; (simp! [ht, e2, e3, PyProof.Rows.bitAnd_m1, hbit, hye] <;> rfl), fun _ KK => KK c3 (.val (vi c3)) (.val (.int k)) rfl (.inr rfl) rfl hc3⟩
        · exact ⟨_, by unfold stepR l_power_1b; (simp! [ht, e2, e3, PyProof.Rows.bitAnd_m1, hbit, hye] <;> rfl), fun _ KK => KK c3 (.val (vi c3)) (.val (.int k)) rfl (.inr rfl) rfl hc3⟩) _ (fun _ KK => KK ([1]) (.own [.int 1]) .unset rfl (.inl rfl) rfl (by
          rw [show ((j : Int) - 1 + 1).toNat = j from by omega, Nat.div_eq_of_lt (by have : ((2 ^ j : Nat) : Int) = 2 ^ j := by push_cast; rfl
                                                                                     omega)]
          rw [Int.pow_zero]
          exact one_num hw))
    refine hF _ fun c s t e3 hs ht h1 => ?_
    subst e3
    refine ⟨_, e, c, s, t, rfl, hs, ?_⟩
    simpa using h1
  obtain ⟨f', e, c, s, t, rfl, hs, hc⟩ := L
  rcases hs with rfl | rfl
  · exact ⟨c, call_go (fd := d_power) (TT_tab (by decide) rfl) rfl rfl (fl := .ret (vi c)) ⟨_, by show xSs _ b_power _ = _; unfold b_power; (simp! [hneg, e] <;> rfl)⟩ rfl, hc⟩
  · exact ⟨c, call_go (fd := d_power) (TT_tab (by decide) rfl) rfl rfl (fl := .ret (vi c)) ⟨_, by show xSs _ b_power _ = _; unfold b_power; (simp! [hneg, e] <;> rfl)⟩ rfl, hc⟩

/-! the closure of divided_times -/
noncomputable def b_mult : ISs := .cons (.ret (.idxe (.call (.var 5) (.cons (.call (.var 4) (.cons (.var 0) (.cons (.var 1) (.cons (.var 3) .nil)))) (.cons (.var 2) (.cons (.var 3) .nil)))) (.int 1))) .nil
noncomputable abbrev d_mult (m : V) (w : Nat) : FDef := ⟨false, 2, [m, .int w, .fn 29, .fn 35], 0, b_mult⟩
theorem mult_spec {d w : Nat} {mm a b : List Int} {M x y : Int} (hd : 5 ≤ d) (hw : W w) (hm : Num (2 ^ w) M mm) (hM : 0 < M) (hMb : M < 2 ^ 400) (ha : Num (2 ^ w) x a) (hb : Num (2 ^ w) y b) (hx : x < M) (hy : y < M) :
    ∃ c, callI (TT (some (d_mult (vi mm) w))) d (.fn 50) none [vi a, vi b] = some (vi c, []) ∧ Num (2 ^ w) (x * y % M) c := by
  obtain ⟨d, rfl⟩ := Nat.exists_eq_add_of_le' (show 1 ≤ d by with_reducible exact Nat.le_trans (Nat.le_add_left _ _) (by assumption))
  have hB := hw.two
  have la := ha.lenB (k := 400) hw (by with_reducible exact Int.lt_trans (by assumption) (by assumption))
  have lb := hb.lenB (k := 400) hw (by with_reducible exact Int.lt_trans (by assumption) (by assumption))
  have lm := hm.lenB (k := 400) hw hMb
  obtain ⟨p, e1, hp⟩ := mul_spec (X := some (d_mult (vi mm) w)) (d := d) (by with_reducible exact le_up (by assumption) (by decide)) hw ha hb (by unfold lenLim; omega)
  have x0 := ha.nonneg (by with_reducible exact zlt_tr (by assumption) (by decide))
  have y0 := hb.nonneg (by with_reducible exact zlt_tr (by assumption) (by decide))
  have lp : p.length ≤ 800 := hp.lenB hw (by
    have h1 : x * y ≤ x * 2 ^ 400 := Int.mul_le_mul_of_nonneg_left (by omega) x0
    have h2 : x * 2 ^ 400 < 2 ^ 400 * 2 ^ 400 := Int.mul_lt_mul_of_pos_right (by with_reducible exact Int.lt_trans (by assumption) (by assumption)) (pow_pos' (by with_reducible decide) _)
    rw [← Int.pow_add] at h2
    exact Int.lt_of_le_of_lt h1 h2)
  obtain ⟨q, r, e2, hq, hr⟩ := divrem_spec (X := some (d_mult (vi mm) w)) (d := d) (by with_reducible exact le_up (by assumption) (by decide)) hw hp hm (by unfold lenLim; with_reducible exact lt_dn (by assumption) (by decide)) (by unfold lenLim; with_reducible exact lt_dn (by assumption) (by decide)) hM
  have hi : item [vi q, vi r] 1 = some (vi r) := by
    unfold item; rw [if_pos (by decide), if_pos (by decide)]; rfl
  exact ⟨r, call_go (fd := d_mult (vi mm) w) rfl rfl rfl (fl := .ret (vi r)) ⟨_, by show xSs _ b_mult _ = _; unfold b_mult; (simp! [e1, e2, hi] <;> rfl)⟩ rfl, hr⟩
end Mine
end PSp14

section PSp15
namespace Mine

noncomputable def Times (X : Option FDef) (d w : Nat) (M : Int) : Prop := ∀ (a b : List Int) (x y : Int), Num (2 ^ w) x a → Num (2 ^ w) y b → x < M → y < M → ∃ c, callI (TT X) d (.fn 50) none [vi a, vi b] = some (vi c, []) ∧ Num (2 ^ w) (x * y % M) c
theorem Times.pow {X : Option FDef} {d w : Nat} {M x : Int} {a b : List Int} {i j : Nat} (h : Times X d w M) (hM : 0 < M) (ha : Num (2 ^ w) (x ^ i % M) a) (hb : Num (2 ^ w) (x ^ j % M) b) :
    ∃ c, callI (TT X) d (.fn 50) none [vi a, vi b] = some (vi c, []) ∧ Num (2 ^ w) (x ^ (i + j) % M) c := by
  obtain ⟨c, e, hc⟩ := h a b _ _ ha hb (md hM).2 (md hM).2
  refine ⟨c, e, ?_⟩
  rw [Int.pow_add, Int.mul_emod]
  exact hc
noncomputable def Odds (w : Nat) (x M : Int) (ps : List (List Int)) : Prop := ∀ (i : Nat) (p : List Int), ps[i]? = some p → Num (2 ^ w) (x ^ (2 * i + 1) % M) p
theorem odd_powers_spec {X : Option FDef} {d w size : Nat} {M x : Int} {a : List Int} (hd : 1 ≤ d) (ht : ∀ d', d ≤ d' + 1 → Times X d' w M) (hM : 0 < M) (hx : x < M) (hx0 : 0 ≤ x) (ha : Num (2 ^ w) x a) (hs : 1 ≤ size) (hs2 : size ≤ 10) :
    ∃ ps : List (List Int), callI (TT X) d (.fn 24) none [vi a, .int size, .fn 50] = some (.list (ps.map vi), []) ∧ ps.length = 2 ^ (size - 1) ∧ Odds w x M ps := by
  obtain ⟨d, rfl⟩ := Nat.exists_eq_add_of_le' hd
  have T := ht d (Nat.le_refl _)
  have ha1 : Num (2 ^ w) (x ^ 1 % M) a := by rw [Int.pow_succ, Int.pow_zero, Int.one_mul, Int.emod_eq_of_lt hx0 hx]; exact ha
  obtain ⟨sq, e1, hsq⟩ := T.pow hM ha1 ha1
  have hsz : ((size : Int) - 1) = ((size - 1 : Nat) : Int) := by with_reducible exact c1 (by assumption)
  have hsh := binI_shl (a := 1) (n := size - 1) (by omega) (by decide)
  have hcast : ((2 ^ (size - 1) : Nat) : Int) = 2 ^ (size - 1) := by push_cast; rfl
  have h1 : 1 ≤ 2 ^ (size - 1) := Nat.one_le_two_pow
  have h2 : 2 ^ (size - 1) ≤ 2 ^ 9 := Nat.pow_le_pow_right (by with_reducible exact Nat.succ_pos _) (by with_reducible exact Nat.sub_le_of_le_add (by assumption))
  have L : ∃ f', xS (callI (TT X) d) l_odd_powers_1 [.val (vi a), .val (.int size), .val (.fn 50), .unset, .own [vi a], .val (vi sq)] = some (.next, f') ∧ ∃ (ps : List (List Int)) (s : Slot), f' = [.val (vi a), .val (.int size), .val (.fn 50), s, .own (ps.map vi), .val (vi sq)] ∧ ps.length = 2 ^ (size - 1) ∧ Odds w x M ps := by
    have hf := xS_forR (C := callI (TT X) d) (kind := 1) (i := 3) (lo := .int 0) (hi := .bin .sub (.bin .shl (.int 1) (.bin .sub (.var 1) (.int 1))) (.int 1)) (s := l_odd_powers_1b) (fr := [.val (vi a), .val (.int size), .val (.fn 50), .unset, .own [vi a], .val (vi sq)]) (a := 0) (b := 1 * 2 ^ (size - 1) - 1) (by (simp! [] <;> rfl)) (by (simp! [hsz, hsh] <;> rfl)) (by decide) (by unfold lim; omega)
    rw [l_odd_powers_1, hf]
    obtain ⟨f', e, hF⟩ := for_up (body := stepR (callI (TT X) d) 3 l_odd_powers_1b) (fun k fr => ∀ G : Prop, (∀ (qs : List (List Int)) (p : List Int) (s : Slot), fr = [.val (vi a), .val (.int size), .val (.fn 50), s, .own (qs.map vi ++ [vi p]), .val (vi sq)] → setOk (some s) = true → (qs.length : Int) = k → Odds w x M (qs ++ [p]) → G) → G) (lo := 0) (hi := 1 * 2 ^ (size - 1) - 1) (by omega) (by
      intro k fr h1 h2' hI
      refine hI _ fun qs p s e3 hs hl ho => ?_
      subst e3
      subst hl
      have hp := ho qs.length p (by simp)
      obtain ⟨c, e2, hc⟩ := T.pow hM hp hsq
      have hlen : (qs.map vi ++ [vi p]).length = qs.length + 1 := by simp
      have lq : qs.length + 1 ≤ lenLim := by unfold lenLim; omega
      refine ⟨_, by unfold stepR l_odd_powers_1b; (simp! [hs, item_end, e2, hlen, lq] <;> rfl), fun _ KK => KK (qs ++ [p]) c (.val (.int qs.length)) (by simp) rfl (by simp) (fun i q e => ?_)⟩
      rcases Nat.lt_or_ge i (qs ++ [p]).length with k | k
      · rw [List.getElem?_append_left k] at e; exact ho i q e
      · rw [List.getElem?_append_right k] at e
        have hi : i - (qs ++ [p]).length = 0 := by
          rcases Nat.eq_zero_or_pos (i - (qs ++ [p]).length) with h | h
          · exact h
          · rw [List.getElem?_eq_none (by simp at h ⊢; with_reducible exact Nat.succ_le_of_lt (by assumption))] at e; cases e
        rw [hi] at e
        simp at e k hi
        subst e
        rw [show i = qs.length + 1 from by omega, show 2 * (qs.length + 1) + 1 = 2 * qs.length + 1 + (1 + 1) from by omega]
        exact hc) _ (fun _ KK => KK ([]) a .unset rfl rfl rfl (fun i q e => by
          cases i with
          | zero => simp at e; subst e; exact ha1
          | succ i => simp at e))
    refine hF _ fun qs p s e3 hs hl ho => ?_
    subst e3
    exact ⟨_, e, qs ++ [p], s, by simp, by simp; omega, ho⟩
  obtain ⟨f', e, ps, s, rfl, hl, ho⟩ := L
  exact ⟨ps, call_go (fd := d_odd_powers) (TT_tab (by decide) rfl) rfl rfl (fl := .ret (.list (ps.map vi))) ⟨_, by show xSs _ b_odd_powers _ = _; unfold b_odd_powers; (simp! [e1, e] <;> rfl)⟩ rfl, hl, ho⟩

theorem window_at_spec {X : Option FDef} {d w E top size : Nat} {e : List Int} (hd : 2 ≤ d) (hw : W w) (he : Num (2 ^ w) E e) (le : e.length ≤ lenLim) (htop : top < 1000) (hs : 1 ≤ size) (hs2 : size ≤ 10) (hbit : E / 2 ^ top % 2 = 1) :
    ∃ last : Nat, last ≤ top ∧ top + 1 ≤ last + size ∧ E / 2 ^ last % 2 = 1 ∧ callI (TT X) d (.fn 25) none [vi e, .int top, .int size, .int w] = some (.tup [.int ((E / 2 ^ last % 2 ^ (top + 1 - last) : Nat) : Int), .int ((top + 1 - last : Nat) : Int)], []) := by
  obtain ⟨d, rfl⟩ := Nat.exists_eq_add_of_le' (show 1 ≤ d by with_reducible exact Nat.le_of_succ_le (by assumption))
  have hb : ∀ n : Nat, n < 2 ^ 40 → callI (TT X) d (.fn 10) none [vi e, .int n, .int w] = some (.int ((E / 2 ^ n % 2 : Nat) : Int), []) := fun n hn => by
    rw [← bit_int]; exact bit_spec (by with_reducible exact le_up (by assumption) (by decide)) hw he le hn
  obtain ⟨l0, hl0⟩ : ∃ l0, l0 = top + 1 - size := ⟨_, rfl⟩
  have L2 : ∃ f', xS (callI (TT X) d) l_window_at_2 [.val (vi e), .val (.int top), .val (.int size), .val (.int w), .val (.int l0), .unset, .unset] = some (.next, f') ∧ ∃ last : Nat, f' = [.val (vi e), .val (.int top), .val (.int size), .val (.int w), .val (.int last), .unset, .unset] ∧ last ≤ top ∧ top + 1 ≤ last + size ∧ E / 2 ^ last % 2 = 1 := by
    rw [l_window_at_2, xS_wh]
    refine while_inv (fun k fr => ∃ last : Nat, fr = [.val (vi e), .val (.int top), .val (.int size), .val (.int w), .val (.int last), .unset, .unset] ∧ last ≤ top ∧ top + 1 ≤ last + size ∧ top - last = k) _ ?_ _ _ ⟨l0, rfl, (by rw [hl0]; exact Nat.sub_le_iff_le_add.mpr (Nat.add_le_add_left hs top)), (by rw [hl0]; first | exact Nat.le_sub_add | exact Nat.le_sub_add _ _ | omega), rfl⟩
    rintro k fr ⟨last, rfl, h1, h2, rfl⟩
    have hb1 := hb last (by omega)
    rcases (show E / 2 ^ last % 2 = 0 ∨ E / 2 ^ last % 2 = 1 by with_reducible exact Nat.mod_two_eq_zero_or_one _) with h | h
    · right
      rw [h] at hb1
      have hlt : last < top := by
        rcases Nat.lt_or_ge last top with q | q
        · exact q
        · have : last = top := by omega
          subst this; omega
      have h0 : ((0 : Nat) : Int) = 0 := rfl
      exact ⟨_, _, top - (last + 1), by unfold l_window_at_2t; (simp! [hb1, h0] <;> rfl), .inl (by unfold l_window_at_2b; (simp! [] <;> rfl)), Nat.sub_lt_sub_left hlt (Nat.lt_succ_self last), last + 1, rfl, by with_reducible exact Nat.succ_le_of_lt (by assumption), by omega, rfl⟩
    · left
      rw [h] at hb1
      have h0 : ¬ ((1 : Nat) : Int) = 0 := by decide
      exact ⟨_, by unfold l_window_at_2t; (simp! [hb1, h0] <;> rfl), last, rfl, h1, h2, h⟩
  obtain ⟨f', e2, last, rfl, h1, h2, h3⟩ := L2
  have L1 : ∃ f', xS (callI (TT X) d) l_window_at_1 [.val (vi e), .val (.int top), .val (.int size), .val (.int w), .val (.int last), .val (.int 0), .unset] = some (.next, f') ∧ ∃ s, f' = [.val (vi e), .val (.int top), .val (.int size), .val (.int w), .val (.int last), .val (.int ((E / 2 ^ last % 2 ^ (top + 1 - last) : Nat) : Int)), s] := by
    have hf := xS_forR (C := callI (TT X) d) (kind := 3) (i := 6) (lo := .var 1) (hi := .bin .sub (.var 4) (.int 1)) (s := l_window_at_1b) (fr := [.val (vi e), .val (.int top), .val (.int size), .val (.int w), .val (.int last), .val (.int 0), .unset]) (a := (top : Int)) (b := (last : Int) - 1) (by (simp! [] <;> rfl)) (by (simp! [] <;> rfl)) (by unfold lim; exact absL (Nat.le_of_lt htop) (by decide)) (by unfold lim; exact absL1 (Nat.le_of_lt (Nat.lt_of_le_of_lt h1 htop)) (by decide))
    rw [l_window_at_1, hf]
    obtain ⟨f', e, hF⟩ := for_dn (body := stepR (callI (TT X) d) 6 l_window_at_1b) (fun k fr => ∀ G : Prop, (∀ (s : Slot) (v : Nat), fr = [.val (vi e), .val (.int top), .val (.int size), .val (.int w), .val (.int last), .val (.int v), s] → setOk (some s) = true → v = E / 2 ^ (k + 1).toNat % 2 ^ (top + 1 - (k + 1).toNat) → G) → G) (lo := (top : Int)) (hi := (last : Int) - 1) (by omega) (by
      intro k fr q1 q2 hI
      refine hI _ fun s v e2 hs hv => ?_
      subst e2
      obtain ⟨k, rfl⟩ := Int.eq_ofNat_of_zero_le (show 0 ≤ k by omega)
      rw [show ((k : Int) + 1).toNat = k + 1 from by omega] at hv
      rw [show ((k : Int) - 1 + 1).toNat = k from by with_reducible exact tn1]
      have hb1 := hb k (by omega)
      have hvb : v < 2 ^ 10 := by
        rw [hv]
        have h := Nat.mod_lt (E / 2 ^ (k + 1)) (show 0 < 2 ^ (top + 1 - (k + 1)) from Nat.two_pow_pos _)
        have := Nat.pow_le_pow_right (show 0 < 2 by with_reducible exact Nat.succ_pos _) (show top + 1 - (k + 1) ≤ 10 by omega)
        with_reducible exact Nat.lt_of_lt_of_le (by assumption) (by assumption)
      have hmul := binI_mul (a := 2) (b := (v : Int)) (by decide) (by unfold lim; exact absL (Nat.le_of_lt hvb) (by decide))
      refine ⟨_, by unfold stepR l_window_at_1b; (simp! [hs, hb1, hmul] <;> rfl), fun _ KK => KK (.val (.int k)) (2 * v + E / 2 ^ k % 2) (by push_cast; rfl) rfl ?_⟩
      have hh := half (n := E) (k := k)
      have hP : 2 ^ (top + 1 - k) = 2 * 2 ^ (top + 1 - (k + 1)) := by rw [Nat.mul_comm, ← Nat.pow_succ]; congr 1; omega
      rw [hv, hP]
      generalize 2 ^ (top + 1 - (k + 1)) = P at *
      generalize E / 2 ^ (k + 1) = a at *
      generalize E / 2 ^ k = b at *
      rw [Nat.mod_mul, show b / 2 = a from by omega]
      with_reducible exact Nat.add_comm _ _) _ (fun _ KK => KK .unset 0 rfl rfl (by rw [show ((top : Int) + 1).toNat = top + 1 from by omega, Nat.sub_self, Nat.pow_zero, Nat.mod_one]))
    refine hF _ fun s v e2 hs hv => ?_
    subst e2
    rw [show ((last : Int) - 1 + 1).toNat = last from by with_reducible exact tn1] at hv
    exact ⟨_, e, s, by rw [hv]⟩
  obtain ⟨f', e1, s, rfl⟩ := L1
  have hmax : (if (top : Int) - (size : Int) + 1 < 0 then 0 else (top : Int) - (size : Int) + 1) = (l0 : Int) := by split <;> omega
  have hm : (top : Int) - (last : Int) + 1 = ((top + 1 - last : Nat) : Int) := by omega
  exact ⟨last, h1, h2, h3, call_go (fd := d_window_at) (TT_tab (by decide) rfl) rfl rfl (fl := .ret (.tup [.int _, .int _])) ⟨_, by show xSs _ b_window_at _ = _; unfold b_window_at; (simp! [hmax, e2, e1, hm] <;> rfl)⟩ rfl⟩

noncomputable def WinI (a e : List Int) (size w : Nat) (one : V) (ps : List (List Int)) (x M : Int) (E k : Nat) (n : Nat) (fr : Frame) : Prop :=
  ∀ G : Prop, (∀ (sp : Int) (f : V) (s9 s10 s11 : Slot), fr = [.val (vi a), .val (vi e), .val (.int size), .val (.int w), .val one, .val (.fn 50), .val (.int sp), .val (.list (ps.map vi)), .val f, s9, s10, s11] → setOk (some s9) = true → setOk (some s10) = true → setOk (some s11) = true → -1 ≤ sp → sp < k → (sp + 1).toNat = n → ((f = .none ∧ sp = (k : Int) - 1) ∨ ∃ c, f = vi c ∧ Num (2 ^ w) (x ^ (E / 2 ^ (sp + 1).toNat) % M) c) → G) → G
noncomputable def WinP (a e : List Int) (size w : Nat) (one : V) (ps : List (List Int)) (x M : Int) (E : Nat) (fr : Frame) : Prop :=
  ∀ G : Prop, (∀ (c : List Int) (sp : Int) (s9 s10 s11 : Slot), fr = [.val (vi a), .val (vi e), .val (.int size), .val (.int w), .val one, .val (.fn 50), .val (.int sp), .val (.list (ps.map vi)), .val (vi c), s9, s10, s11] → Num (2 ^ w) (x ^ E % M) c → G) → G
theorem by_windows_spec {X : Option FDef} {d w size E : Nat} {M x : Int} {a e : List Int} {one : V} (hd : 4 ≤ d) (hw : W w) (ht : ∀ d', d ≤ d' + 2 → Times X d' w M) (hM : 0 < M) (hx : x < M) (hx0 : 0 ≤ x) (ha : Num (2 ^ w) x a) (he : Num (2 ^ w) E e) (hE : 0 < E) (hE2 : E < 2 ^ 40) (hs : 1 ≤ size) (hs2 : size ≤ 10) :
    ∃ c, callI (TT X) d (.fn 26) none [vi a, vi e, .int size, .int w, one, .fn 50] = some (vi c, []) ∧ Num (2 ^ w) (x ^ E % M) c := by
  obtain ⟨d, rfl⟩ := Nat.exists_eq_add_of_le' (show 1 ≤ d by with_reducible exact Nat.le_trans (Nat.le_add_left _ _) (by assumption))
  have hB := hw.two
  have T := ht d (by with_reducible exact Nat.le_succ _)
  have le : e.length ≤ lenLim := by have := he.lenB (k := 40) hw (by omega); unfold lenLim; with_reducible exact le_dn (by assumption) (by decide)
  obtain ⟨ps, e1, hpl, hodd⟩ := odd_powers_spec (X := X) (d := d) (size := size) (by with_reducible exact le_up (by assumption) (by decide)) (fun d' h => ht d' (by with_reducible exact Nat.succ_le_succ (by assumption))) hM hx hx0 ha hs hs2
  obtain ⟨k, e2, k0, kl, kh⟩ := bits_spec (X := X) (d := d) (by with_reducible exact le_up (by assumption) (by decide)) hw he le (by omega)
  have hne : e ≠ [] := fun q => by have := (he.nil_iff (by with_reducible exact zlt_tr (by assumption) (by decide))).mp q; omega
  have kb : k ≤ 40 := by
    rcases Nat.lt_or_ge 40 k with q | q
    · have := pow_mono (show (0 : Int) < 2 by with_reducible decide) (show 40 ≤ k - 1 by omega); omega
    · exact q
  have hkl : 2 ^ (k - 1) ≤ E := by have : ((2 ^ (k - 1) : Nat) : Int) = 2 ^ (k - 1) := by push_cast; rfl
                                   omega
  have hkh : E < 2 ^ k := by have : ((2 ^ k : Nat) : Int) = 2 ^ k := by push_cast; rfl
                             omega
  have hb : ∀ n : Nat, n < 2 ^ 40 → callI (TT X) d (.fn 10) none [vi e, .int n, .int w] = some (.int ((E / 2 ^ n % 2 : Nat) : Int), []) := fun n hn => by
    rw [← bit_int]; exact bit_spec (by with_reducible exact le_up (by assumption) (by decide)) hw he le hn
  have h2s : 2 ^ (size - 1) ≤ 2 ^ 9 := Nat.pow_le_pow_right (by with_reducible exact Nat.succ_pos _) (by with_reducible exact Nat.sub_le_of_le_add (by assumption))
  have L : ∃ f', xS (callI (TT X) d) l_by_windows_2 [.val (vi a), .val (vi e), .val (.int size), .val (.int w), .val one, .val (.fn 50), .val (.int ((k : Int) - 1)), .val (.list (ps.map vi)), .val .none, .unset, .unset, .unset] = some (.next, f') ∧ WinP a e size w one ps x M E f' := by
    rw [l_by_windows_2, xS_wh]
    refine while_inv (WinI a e size w one ps x M E k) (WinP a e size w one ps x M E) ?_ _ _ (fun _ KK => KK ((k : Int) - 1) .none .unset .unset .unset rfl rfl rfl rfl (by omega) (by with_reducible exact bm2) rfl (.inl ⟨rfl, rfl⟩))
    intro n fr hI
    refine hI _ fun sp f s9 s10 s11 e7 h9 h10 h11 q1 q2 e8 hf => ?_
    subst e7 e8
    by_cases hsp : 0 ≤ sp
    · obtain ⟨sp, rfl⟩ := Int.eq_ofNat_of_zero_le hsp
      rw [show ((sp : Int) + 1).toNat = sp + 1 from by omega] at hf
      have hb1 := hb sp (by omega)
      have hh := half (n := E) (k := sp)
      rcases (show E / 2 ^ sp % 2 = 0 ∨ E / 2 ^ sp % 2 = 1 by with_reducible exact Nat.mod_two_eq_zero_or_one _) with h | h
      · -- a nought
        rw [h] at hb1 hh
        rcases hf with ⟨rfl, hk⟩ | ⟨c, rfl, hc⟩
        · exfalso
          have : sp = k - 1 := by omega
          subst this
          have h3 : E / 2 ^ (k - 1) = 1 := by
            have hp := Nat.two_pow_pos (k - 1)
            have h4 : 2 ^ k = 2 ^ (k - 1) * 2 := by rw [← Nat.pow_succ]; congr 1; omega
            exact (Nat.div_eq_iff hp).mpr (by omega)
          omega
        · obtain ⟨c2, e3, hc2⟩ := T.pow hM hc hc
          have h0 : ((0 : Nat) : Int) = 0 := rfl
          refine .inr ⟨_, _, sp, by unfold l_by_windows_2t; (simp! [hsp] <;> rfl), .inr (by unfold l_by_windows_2b; (simp! [hb1, h0, e3] <;> rfl)), by omega, fun _ KK => KK ((sp : Int) - 1) (vi c2) s9 s10 s11 rfl h9 h10 h11 (by omega) (by omega) (by with_reducible exact tn1) (.inr ⟨c2, rfl, ?_⟩)⟩
          rw [show ((sp : Int) - 1 + 1).toNat = sp from by with_reducible exact tn1, hh, show 2 * (E / 2 ^ (sp + 1)) + 0 = E / 2 ^ (sp + 1) + E / 2 ^ (sp + 1) from by omega]
          exact hc2
      · rw [h] at hb1
        have h0 : ¬ ((1 : Nat) : Int) = 0 := by decide
        obtain ⟨last, r1, r2, r3, e4⟩ := window_at_spec (X := X) (d := d) (size := size) (by with_reducible exact le_up (by assumption) (by decide)) hw he le (show sp < 1000 by omega) hs hs2 h
        obtain ⟨m, hm⟩ : ∃ m, m = sp + 1 - last := ⟨_, rfl⟩
        rw [← hm] at e4
        obtain ⟨v, hv⟩ : ∃ v, v = E / 2 ^ last % 2 ^ m := ⟨_, rfl⟩
        rw [← hv] at e4
        have hm1 : 1 ≤ m := by rw [hm]; exact Nat.sub_pos_of_lt (Nat.lt_succ_of_le r1)
        have hms0 : m ≤ size := by rw [hm]; exact Nat.sub_le_iff_le_add'.mpr r2
        have hm10 : m ≤ 10 := Nat.le_trans hms0 hs2
        have hmsp : m ≤ sp + 1 := by rw [hm]; exact Nat.sub_le _ _
        have hvm : v < 2 ^ m := by rw [hv]; exact Nat.mod_lt _ (Nat.two_pow_pos _)
        have hv10 : v ≤ 2 ^ 10 := Nat.le_of_lt (Nat.lt_of_lt_of_le hvm (Nat.pow_le_pow_right (by decide) hm10))
        have hvodd : v % 2 = 1 := by
          rw [hv, show 2 ^ m = 2 * 2 ^ (m - 1) from by rw [Nat.mul_comm, ← Nat.pow_succ]; congr 1; omega, Nat.mod_mul_right_mod]; exact r3
        have hms : 2 ^ m ≤ 2 ^ size := Nat.pow_le_pow_right (by decide) hms0
        have hsz : 2 ^ size = 2 * 2 ^ (size - 1) := by rw [Nat.mul_comm, ← Nat.pow_succ]; congr 1; exact (Nat.sub_add_cancel hs).symm
        have hidx : v / 2 < ps.length := by omega
        have hdiv : binI .div (v : Int) 2 = some ((v / 2 : Nat) : Int) := by
          rw [binI_div (by with_reducible decide) (by unfold lim; exact absL hv10 (by decide)) (by decide)]; rfl
        have hip : item (ps.map vi) ((v / 2 : Nat) : Int) = some (vi ps[v / 2]) := by
          unfold item
          rw [if_pos (by unfold lim; exact absL (Nat.le_trans (Nat.div_le_self _ _) hv10) (by decide)), if_pos (by with_reducible exact Int.natCast_nonneg _), Int.toNat_natCast, List.getElem?_map, List.getElem?_eq_getElem hidx]; rfl
        have hpn := hodd (v / 2) _ (List.getElem?_eq_getElem hidx)
        rw [show 2 * (v / 2) + 1 = v from by omega] at hpn
        have hsplit : E / 2 ^ last = 2 ^ m * (E / 2 ^ (sp + 1)) + v := by
          have h5 : E / 2 ^ (sp + 1) = E / 2 ^ last / 2 ^ m := by rw [Nat.div_div_eq_div_mul, ← Nat.pow_add, show last + m = sp + 1 from by rw [hm]; exact Nat.add_sub_cancel' (Nat.le_succ_of_le r1)]
          rw [h5, hv, Nat.div_add_mod]
        have hnext : ((sp : Int) - (m : Int) + 1).toNat = last := nxt hm r1
        rcases hf with ⟨rfl, hk⟩ | ⟨c, rfl, hc⟩
        · refine .inr ⟨_, _, last, by unfold l_by_windows_2t; (simp! [hsp] <;> rfl), .inl (by unfold l_by_windows_2b; (simp! [hb1, h0, e4, h9, h10, hdiv, hip] <;> rfl)), ltn r1, fun _ KK => KK ((sp : Int) - (m : Int)) (vi ps[v / 2]) (.val (.int v)) (.val (.int m)) s11 rfl rfl rfl h11 (gem hmsp) (subk q2) (by with_reducible assumption) (.inr ⟨_, rfl, ?_⟩)⟩
          have h6 : E / 2 ^ (sp + 1) = 0 := Nat.div_eq_of_lt (by rw [show sp + 1 = k from by omega]; exact hkh)
          rw [hnext, hsplit, h6, Nat.mul_zero, Nat.zero_add]
          exact hpn
        · have L1 : ∃ f', xS (callI (TT X) d) l_by_windows_1 [.val (vi a), .val (vi e), .val (.int size), .val (.int w), .val one, .val (.fn 50), .val (.int sp), .val (.list (ps.map vi)), .val (vi c), .val (.int v), .val (.int m), s11] = some (.next, f') ∧ ∃ (c2 : List Int) (s : Slot), f' = [.val (vi a), .val (vi e), .val (.int size), .val (.int w), .val one, .val (.fn 50), .val (.int sp), .val (.list (ps.map vi)), .val (vi c2), .val (.int v), .val (.int m), s] ∧ setOk (some s) = true ∧ Num (2 ^ w) (x ^ (2 ^ m * (E / 2 ^ (sp + 1))) % M) c2 := by
            have hf := xS_forR (C := callI (TT X) d) (kind := 1) (i := 11) (lo := .int 0) (hi := .var 10) (s := l_by_windows_1b) (fr := [.val (vi a), .val (vi e), .val (.int size), .val (.int w), .val one, .val (.fn 50), .val (.int sp), .val (.list (ps.map vi)), .val (vi c), .val (.int v), .val (.int m), s11]) (a := 0) (b := (m : Int)) (by (simp! [] <;> rfl)) (by (simp! [] <;> rfl)) (by decide) (by unfold lim; exact absL hm10 (by decide))
            rw [l_by_windows_1, hf]
            obtain ⟨f', e5, hF⟩ := for_up (body := stepR (callI (TT X) d) 11 l_by_windows_1b) (fun i fr => ∀ G : Prop, (∀ (c2 : List Int) (s : Slot) (j : Nat), fr = [.val (vi a), .val (vi e), .val (.int size), .val (.int w), .val one, .val (.fn 50), .val (.int sp), .val (.list (ps.map vi)), .val (vi c2), .val (.int v), .val (.int m), s] → setOk (some s) = true → (j : Int) = i → Num (2 ^ w) (x ^ (2 ^ j * (E / 2 ^ (sp + 1))) % M) c2 → G) → G) (lo := 0) (hi := (m : Int)) (by with_reducible exact Int.natCast_nonneg _) (by
              intro i fr _ _ hI
              refine hI _ fun c2 s j e3 hs' hj hc2 => ?_
              subst e3
              obtain ⟨c3, e6, hc3⟩ := T.pow hM hc2 hc2
              refine ⟨_, by unfold stepR l_by_windows_1b; (simp! [hs', e6] <;> rfl), fun _ KK => KK c3 (.val (.int i)) (j + 1) rfl rfl (by omega) ?_⟩
              rw [← Nat.add_mul, show 2 ^ j + 2 ^ j = 2 ^ (j + 1) from by rw [Nat.pow_succ]; omega] at hc3
              exact hc3) _ (fun _ KK => KK c s11 0 rfl h11 rfl (by rw [Nat.pow_zero, Nat.one_mul]; exact hc))
            refine hF _ fun c2 s j e3 hs' hj hc2 => ?_
            subst e3
            have : j = m := by omega
            subst this
            exact ⟨_, e5, c2, s, rfl, hs', hc2⟩
          obtain ⟨f', e5, c2, s, rfl, hs', hc2⟩ := L1
          obtain ⟨c3, e6, hc3⟩ := T.pow hM hc2 hpn
          refine .inr ⟨_, _, last, by unfold l_by_windows_2t; (simp! [hsp] <;> rfl), .inl (by unfold l_by_windows_2b; (simp! [hb1, h0, e4, h9, h10, hdiv, hip, e5, e6] <;> rfl)), ltn r1, fun _ KK => KK ((sp : Int) - (m : Int)) (vi c3) (.val (.int v)) (.val (.int m)) s rfl rfl rfl hs' (gem hmsp) (subk q2) (by with_reducible assumption) (.inr ⟨_, rfl, ?_⟩)⟩
          rw [hnext, hsplit]
          exact hc3
    · have h1 : sp = -1 := by omega
      subst h1
      rcases hf with ⟨rfl, hk⟩ | ⟨c, rfl, hc⟩
      · omega
      · exact .inl ⟨_, by unfold l_by_windows_2t; (simp! [hsp] <;> rfl), fun _ KK => KK c (-1) s9 s10 s11 rfl (by simpa using hc)⟩
  obtain ⟨f', e3, hL⟩ := L
  refine hL _ fun c sp s9 s10 s11 e7 hc => ?_
  subst e7
  exact ⟨c, call_go (fd := d_by_windows) (TT_tab (by decide) rfl) rfl rfl (fl := .ret (vi c)) ⟨_, by show xSs _ b_by_windows _ = _; unfold b_by_windows; (simp! [hne, e1, e2, e3] <;> rfl)⟩ rfl, hc⟩

theorem check_modulus_spec {X : Option FDef} {d : Nat} {m : List Int} (hd : 1 ≤ d) (hm : m ≠ []) : callI (TT X) d (.fn 27) none [vi m] = some (.none, []) := by
  obtain ⟨d, rfl⟩ := Nat.exists_eq_add_of_le' hd
  exact call_go (fd := d_check_modulus) (TT_tab (by decide) rfl) rfl rfl (fl := .next) ⟨_, by show xSs _ b_check_modulus _ = _; unfold b_check_modulus; (simp! [hm] <;> rfl)⟩ rfl
theorem unit_rest_spec {X : Option FDef} {d : Nat} {m : List Int} (hd : 1 ≤ d) (hm : m ≠ [1]) : callI (TT X) d (.fn 28) none [vi m] = some (vi [1], []) := by
  obtain ⟨d, rfl⟩ := Nat.exists_eq_add_of_le' hd
  have h1 : intsV [V.int 1] = some [1] := rfl
  exact call_go (fd := d_unit_rest) (TT_tab (by decide) rfl) rfl rfl (fl := .ret (vi [1])) ⟨_, by show xSs _ b_unit_rest _ = _; unfold b_unit_rest; (simp! [hm, h1] <;> rfl)⟩ rfl
end Mine
end PSp15

section PSp16
namespace Mine

/-! _law_turned -/
theorem law_turned_spec {X : Option FDef} {d : Nat} {c m : Int} {ns : List Int} (hd : 1 ≤ d) (hm : 0 < m) (hc : 0 ≤ c) (hc2 : c < 1000) (ln : ns.length ≤ lenLim) :
    ∃ r, callI (TT X) d (.fn 36) (some [.int c, vi ns]) [.int m] = some (.int r, [.int (c + 1), vi ns]) ∧ 0 ≤ r ∧ r < m := by
  obtain ⟨d, rfl⟩ := Nat.exists_eq_add_of_le' hd
  have h0 : ∀ x : Int, item [V.int x, vi ns] 0 = some (.int x) := fun x => by unfold item; rw [if_pos (by decide), if_pos (by decide)]; rfl
  have h1 : ∀ x : Int, item [V.int x, vi ns] 1 = some (vi ns) := fun x => by unfold item; rw [if_pos (by decide), if_pos (by decide)]; rfl
  have hset : setItem [V.int c, vi ns] 0 (.int (c + 1)) = some [.int (c + 1), vi ns] := by
    unfold setItem
    rw [if_pos ⟨by with_reducible decide, by simp, by simp [lenLim]⟩]; rfl
  by_cases h : c + 1 ≤ (ns.length : Int)
  · have hlt : c.toNat < ns.length := by omega
    have hi : item (ns.map V.int) c = some (.int ns[c.toNat]) := item_pos hc (List.getElem?_eq_getElem hlt) ln
    have hcc : c + 1 - 1 = c := by omega
    have hmd := md (a := ns[c.toNat]) hm
    exact ⟨ns[c.toNat] % m, call_goIo (fd := d_law_turned) (TT_tab (by decide) rfl) rfl rfl (fl := .ret (.int _)) ⟨_, by show xSs _ b_law_turned _ = _; unfold b_law_turned; (simp! [h0, h1, hset, ln, h, hcc, hi, binI_mod hm] <;> rfl), rfl⟩ rfl, hmd.1, hmd.2⟩
  · have hmul := binI_mul (a := 6) (b := c + 1) (by decide) (sm_of (by omega) (by omega))
    have hdiv := binI_div (a := c + 1) (b := 2) (by with_reducible decide) (sm_of (by omega) (by omega)) (by decide)
    have hmd := md (a := 6 * (c + 1) + (c + 1) / 2 + 7) hm
    exact ⟨(6 * (c + 1) + (c + 1) / 2 + 7) % m, call_goIo (fd := d_law_turned) (TT_tab (by decide) rfl) rfl rfl (fl := .ret (.int _)) ⟨_, by show xSs _ b_law_turned _ = _; unfold b_law_turned; (simp! [h0, h1, hset, ln, h, hmul, hdiv, binI_mod hm] <;> rfl), rfl⟩ rfl, hmd.1, hmd.2⟩

/-! _law_divided -/
noncomputable def dv (b p : Int) : Nat → Int → List Int → Option (List Int)
  | 0, _, _ => none
  | n + 1, r, ds => if r ≠ 1 ∨ ds = [] then dv b p n (r * b % p) (ds ++ [r * b / p]) else some ds
theorem dv_loop {C : CallF} {b p : Int} (hb : 0 ≤ b) (hb2 : b < 2 ^ 30) (hp : 0 < p) (hp2 : p < 2 ^ 30) : ∀ (n : Nat) (r : Int) (ds out : List Int), dv b p n r ds = some out → 0 ≤ r → r < 2 ^ 30 → ds.length + n ≤ lenLim →
    ∃ r', xS C l_law_divided_1 [.val (.int b), .val (.int p), .own (ds.map .int), .val (.int r)] = some (.next, [.val (.int b), .val (.int p), .own (out.map .int), .val (.int r')])
  | 0, r, ds, out, h, _, _, _ => by cases h
  | n + 1, r, ds, out, h, r0, r1, hl => by
    have hmul := binI_mul (a := r) (b := b) (sm_of r0 (by with_reducible exact zlt_dn (by assumption) (by decide))) (sm_of hb (by with_reducible exact zlt_dn (by assumption) (by decide)))
    have hrb0 := Int.mul_nonneg r0 hb
    have hrb : r * b ≤ 2 ^ 30 * 2 ^ 30 := by
      have h1 : r * b ≤ 2 ^ 30 * b := Int.mul_le_mul_of_nonneg_right (by with_reducible exact Int.le_of_lt (by assumption)) hb
      omega
    have hdiv := binI_div (a := r * b) (b := p) hp (sm_of hrb0 (by omega)) (sm_of (by with_reducible exact Int.le_of_lt (by assumption)) (by with_reducible exact zlt_dn (by assumption) (by decide)))
    have hmod := binI_mod (a := r * b) hp
    have hmd := md (a := r * b) hp
    have ld : ds.length ≤ lenLim := by with_reducible exact Nat.le_trans (Nat.le_add_right _ _) (by assumption)
    unfold dv at h
    by_cases hr : r = 1
    · subst hr
      by_cases hds : ds = []
      · subst hds
        rw [if_pos (.inr rfl)] at h
        obtain ⟨r', e⟩ := dv_loop (C := C) hb hb2 hp hp2 n _ _ _ h hmd.1 (by omega) (by simp; omega)
        refine ⟨r', ?_⟩
        rw [l_law_divided_1, xS_wh] at e ⊢
        have hnil : (([] : List Int) = []) = True := by simp
        exact whileI_step (by unfold l_law_divided_1t; (simp! [List.map_nil, intsV, hnil] <;> rfl)) (by unfold l_law_divided_1b; (simp! [hmul, hdiv, hmod, List.length_nil, Nat.zero_le] <;> rfl)) e
      · rw [if_neg (by simp [hds])] at h
        cases h
        refine ⟨1, ?_⟩
        rw [l_law_divided_1, xS_wh]
        exact whileI_stop (by unfold l_law_divided_1t; (simp! [hds] <;> rfl))
    · rw [if_pos (.inl hr)] at h
      obtain ⟨r', e⟩ := dv_loop (C := C) hb hb2 hp hp2 n _ _ _ h hmd.1 (by omega) (by simp; omega)
      refine ⟨r', ?_⟩
      rw [l_law_divided_1, xS_wh] at e ⊢
      exact whileI_step (by unfold l_law_divided_1t; (simp! [hr] <;> rfl)) (by unfold l_law_divided_1b; (simp! [hmul, hdiv, hmod, ld, push_map] <;> rfl)) e
theorem law_divided_spec {X : Option FDef} {d : Nat} {b p : Int} {out : List Int} (hd : 1 ≤ d) (hb : 0 ≤ b) (hb2 : b < 2 ^ 30) (hp : 0 < p) (hp2 : p < 2 ^ 30) (h : dv b p 40 1 [] = some out) : callI (TT X) d (.fn 38) none [.int b, .int p] = some (vi out, []) := by
  obtain ⟨d, rfl⟩ := Nat.exists_eq_add_of_le' hd
  obtain ⟨r', e⟩ := dv_loop (C := callI (TT X) d) hb hb2 hp hp2 40 1 [] out h (by with_reducible decide) (by with_reducible decide) (by simp [lenLim])
  have e' : xS (callI (TT X) d) l_law_divided_1 [.val (.int b), .val (.int p), .own [], .val (.int 1)] = _ := e
  exact call_go (fd := d_law_divided) (TT_tab (by decide) rfl) rfl rfl (fl := .ret (vi out)) ⟨_, by show xSs _ b_law_divided _ = _; unfold b_law_divided; (simp! [e'] <;> rfl)⟩ rfl

/-! what the law asks of the row of digits -/
noncomputable def ck (b p : Int) (due : List Int) : Bool :=
  let m := due.length
  decide (0 < m ∧ m < 20 ∧ (∀ x ∈ due, 0 ≤ x ∧ x < b) ∧ (b ^ m - 1) % p = 0 ∧ val b due.reverse = (b ^ m - 1) / p ∧ (p - 1) % m = 0 ∧ (b % p) ^ m % p = 1 ∧
    (m % 2 = 0 → (b % p) ^ (m / 2) % p ≠ 1) ∧ (m % 3 = 0 → (b % p) ^ (m / 3) % p ≠ 1) ∧ (m % 5 = 0 → (b % p) ^ (m / 5) % p ≠ 1) ∧
    (m % 2 = 0 → List.zipWith (· + ·) (due.take (m / 2)) (due.drop (m / 2)) = List.replicate (m / 2) (b - 1) ∧ val b (due.take (m / 2)).reverse + val b (due.drop (m / 2)).reverse = b ^ (m / 2) - 1))
noncomputable def ckAll : Bool := (List.range 12).all fun i => [3, 5, 7, 11, 13, 17, 19].all fun p => let b : Int := i + 2; decide (b % p = 0) || (match dv b p 40 1 [] with
  | some due => ck b p due
  | none => false)
theorem ckAll_true : ckAll = true := by decide +kernel
theorem ck_of {b p : Int} (h2 : 2 ≤ b) (h13 : b ≤ 13) (hp : p ∈ ([3, 5, 7, 11, 13, 17, 19] : List Int)) (hbp : b % p ≠ 0) : ∃ due, dv b p 40 1 [] = some due ∧ ck b p due = true := by
  have h := List.all_eq_true.mp ckAll_true (b - 2).toNat (List.mem_range.mpr (by omega))
  have h1 := List.all_eq_true.mp h p hp
  rw [show (((b - 2).toNat : Nat) : Int) + 2 = b from by omega] at h1
  simp only [Bool.or_eq_true, decide_eq_true_eq, hbp, false_or] at h1
  cases q : dv b p 40 1 [] with
  | none => rw [q] at h1; cases h1
  | some due => rw [q] at h1; exact ⟨due, rfl, h1⟩
end Mine
end PSp16

section PLv
namespace Mine

/-! the statements of law behind the draws: 0 due 1 row 2 prime 3 whole 4 rest 5 digits 6 part 7 halves 8 sums 9 p 10 w 11 base 12 least 13 many -/
noncomputable def L1 : IS := .asgS [0, 1, 2] (.cons (.call (.gl 38) (.cons (.var 11) (.cons (.var 9) .nil))) (.cons (.call (.gl 37) (.cons (.var 11) (.cons (.var 10) .nil))) (.cons (.call (.gl 37) (.cons (.var 9) (.cons (.var 10) .nil))) .nil)))
noncomputable def L2e : IE := .lenv 0
noncomputable def L3 : IS := .asgU [3, 4] (.call (.gl 35) (.cons (.call (.gl 4) (.cons (.call (.gl 23) (.cons (.var 1) (.cons (.var 13) (.cons (.var 10) (.cons (.gl 29) .nil))))) (.cons (.list (.cons (.int 1) .nil)) (.cons (.var 10) .nil)))) (.cons (.var 2) (.cons (.var 10) .nil))))
noncomputable def L4 : IS := .asg 5 (.call (.gl 18) (.cons (.var 3) (.cons (.var 11) (.cons (.var 10) (.cons (.var 12) (.cons (.gl 35) (.cons (.gl 29) .nil)))))))
noncomputable def L5a : IB := .cmp .ne (.var 4) (.list .nil)
noncomputable def L5b : IB := .cmp .ne (.bin .add (.bin .mul (.list (.cons (.int 0) .nil)) (.bin .sub (.var 13) (.lenv 5))) (.var 5)) (.var 0)
noncomputable def L5c : IB := .cmp .ne (.bin .mod (.bin .sub (.var 9) (.int 1)) (.var 13)) (.int 0)
noncomputable def L6 : IEs := .cons (.var 1) (.cons (.call (.gl 37) (.cons (.var 13) (.cons (.var 10) .nil))) (.cons (.var 2) (.cons (.var 10) (.cons (.int 2) (.cons (.gl 29) (.cons (.gl 35) .nil))))))
noncomputable def L7 : IEs := .cons (.var 1) (.cons (.call (.gl 37) (.cons (.bin .div (.var 13) (.var 6)) (.cons (.var 10) .nil))) (.cons (.var 2) (.cons (.var 10) (.cons (.int 1) (.cons (.gl 29) (.cons (.gl 35) .nil))))))
noncomputable def L7t : IE := .tup (.cons (.int 2) (.cons (.int 3) (.cons (.int 5) .nil)))
noncomputable def L8 : IB := .cmp .eq (.bin .mod (.var 13) (.int 2)) (.int 1)
noncomputable def L9 : IS := .asg 7 (.list (.cons (.slc 0 .none (.bin .div (.var 13) (.int 2))) (.cons (.slc 0 (.bin .div (.var 13) (.int 2)) .none) .nil)))
noncomputable def L11c : IE := .bin .mul (.list (.cons (.bin .sub (.var 11) (.int 1)) .nil)) (.bin .div (.var 13) (.int 2))
noncomputable def L11e : IE := .bin .sub (.bin .pow (.var 11) (.bin .div (.var 13) (.int 2))) (.int 1)

noncomputable def lfr (due row prime whole rest digits part halves sums : Slot) (p w b le : Int) (many : Slot) : Frame := [due, row, prime, whole, rest, digits, part, halves, sums, .val (.int p), .val (.int w), .val (.int b), .val (.int le), many]

theorem val_inj_len {B : Int} (hB : 1 < B) : ∀ {l r : List Int}, Dig B l → Dig B r → l.length = r.length → val B l = val B r → l = r
  | [], [], _, _, _, _ => rfl
  | x :: l, y :: r, h, k, hl, e => by
    simp only [val] at e
    have hx := h.head
    have hy := k.head
    have h1 : x = y := by
      have e1 := congrArg (· % B) e
      simp only [Int.add_mul_emod_self_left] at e1
      rwa [Int.emod_eq_of_lt hx.1 hx.2, Int.emod_eq_of_lt hy.1 hy.2] at e1
    subst h1
    have h2 : val B l = val B r := Int.eq_of_mul_eq_mul_left (show B ≠ 0 by omega) (by omega)
    rw [val_inj_len hB h.tail k.tail (by simpa using hl) h2]

theorem pad_due {b N : Int} {due f : List Int} (hb : 1 < b) (hd : Dig b due) (hv : val b due.reverse = N) (hf : Num b N f) : f.length ≤ due.length ∧ List.replicate (due.length - f.length) 0 ++ f.reverse = due := by
  have hlt := val_lt (B := b) (by with_reducible exact zlo (by assumption)) (l := due.reverse) (hd.sub fun x hx => by simpa using hx)
  rw [hv, List.length_reverse] at hlt
  have hlen := hf.len hb hlt
  refine ⟨hlen, ?_⟩
  have hz : Dig b (List.replicate (due.length - f.length) (0 : Int)) := fun x hx => by rw [(List.mem_replicate.mp hx).2]; with_reducible exact ⟨by decide, zlo (by assumption)⟩
  have e := val_inj_len hb (l := f ++ List.replicate (due.length - f.length) 0) (r := due.reverse) (hf.dig.append hz) (hd.sub fun x hx => by simpa using hx) (by simp; with_reducible exact Nat.add_sub_cancel' (by assumption)) (by rw [val_append, val_zeros, hf.val, hv]; simp)
  have e2 := congrArg List.reverse e
  simpa using e2

structure CkF (b p : Int) (due : List Int) : Prop where
  m0 : 0 < due.length
  m1 : due.length < 20
  dig : Dig b due
  dv : (b ^ due.length - 1) % p = 0
  val : val b due.reverse = (b ^ due.length - 1) / p
  pm : (p - 1) % (due.length : Int) = 0
  pw : (b % p) ^ due.length % p = 1
  p2 : due.length % 2 = 0 → (b % p) ^ (due.length / 2) % p ≠ 1
  p3 : due.length % 3 = 0 → (b % p) ^ (due.length / 3) % p ≠ 1
  p5 : due.length % 5 = 0 → (b % p) ^ (due.length / 5) % p ≠ 1
  half : due.length % 2 = 0 → List.zipWith (· + ·) (due.take (due.length / 2)) (due.drop (due.length / 2)) = List.replicate (due.length / 2) (b - 1) ∧ Mine.val b (due.take (due.length / 2)).reverse + Mine.val b (due.drop (due.length / 2)).reverse = b ^ (due.length / 2) - 1
theorem CkF.of {b p : Int} {due : List Int} (h : ck b p due = true) : CkF b p due := by
  unfold ck at h
  simp only [decide_eq_true_eq] at h
  obtain ⟨h1, h2, h3, h4, h5, h6, h7, h8, h9, h10, h11⟩ := h
  exact ⟨h1, h2, h3, h4, h5, h6, h7, h8, h9, h10, h11⟩

section
variable {w : Nat} {b p le : Int} {due row prime : List Int}

theorem ev1 (hw : W w) (hw4 : 4 ≤ w) (hb2 : 2 ≤ b) (hb13 : b ≤ 13) (hp0 : 0 < p) (hp1 : p < 1000) (hd : dv b p 40 1 [] = some due) :
    ∃ row prime, xS (callI (TT none) 40) L1 (lfr .unset .unset .unset .unset .unset .unset .unset .unset .unset p w b le .unset) = some (.next, lfr (.val (vi due)) (.val (vi row)) (.val (vi prime)) .unset .unset .unset .unset .unset .unset p w b le .unset) ∧ Num (2 ^ w) b row ∧ Num (2 ^ w) p prime := by
  have e1 := law_divided_spec (X := none) (d := 40) (by with_reducible exact Nat.le_add_left _ _) (by with_reducible exact zle_tr (by assumption) (by decide)) (by omega) hp0 (by with_reducible exact zlt_dn (by assumption) (by decide)) hd
  obtain ⟨row, e2, h2⟩ := law_limbs_spec (X := none) (d := 40) (w := w) (n := b) (by with_reducible exact Nat.le_add_left _ _) hw (by with_reducible exact zle_tr (by assumption) (by decide)) (by omega)
  obtain ⟨prime, e3, h3⟩ := law_limbs_spec (X := none) (d := 40) (w := w) (n := p) (by with_reducible exact Nat.le_add_left _ _) hw (by with_reducible exact Int.le_of_lt (by assumption)) (by with_reducible exact zlt_dn (by assumption) (by decide))
  exact ⟨row, prime, by unfold lfr L1; (simp! [e1, e2, e3] <;> rfl), h2, h3⟩

theorem ev2 {s1 s2 : Slot} {a1 a2 a3 a4 a5 a6 : Slot} (hl : due.length ≤ lenLim) : evalE (callI (TT none) 40) L2e (lfr (.val (vi due)) s1 s2 a1 a2 a3 a4 a5 a6 p w b le .unset) = some (.val (.int due.length), lfr (.val (vi due)) s1 s2 a1 a2 a3 a4 a5 a6 p w b le .unset) := by
  unfold lfr L2e; (simp! [hl] <;> rfl)

theorem ev3 (hw : W w) (hb2 : 2 ≤ b) (hp0 : 0 < p) (hp1 : p < 1000) (K : CkF b p due) (hr : Num (2 ^ w) b row) (hp : Num (2 ^ w) p prime) (hbig : Big (b ^ due.length)) :
    ∃ whole, xS (callI (TT none) 40) L3 (lfr (.val (vi due)) (.val (vi row)) (.val (vi prime)) .unset .unset .unset .unset .unset .unset p w b le (.val (.int due.length))) = some (.next, lfr (.val (vi due)) (.val (vi row)) (.val (vi prime)) (.val (vi whole)) (.val (vi [])) .unset .unset .unset .unset p w b le (.val (.int due.length))) ∧
      Num (2 ^ w) ((b ^ due.length - 1) / p) whole := by
  have hB := hw.two
  obtain ⟨c1, e1, h1⟩ := power_spec (X := none) (d := 40) (by with_reducible exact Nat.le_add_left _ _) hw hr hb2 K.m0 hbig
  have hge : 1 ≤ b ^ due.length := by have := pow_pos' (show 0 < b by with_reducible exact zlt_tr (by assumption) (by decide)) due.length; omega
  obtain ⟨c2, e2, h2⟩ := sub_spec (X := none) (d := 40) (by with_reducible exact Nat.le_add_left _ _) hw h1 (one_num hw) (by have := Big.len hw h1 hbig; unfold lenLim; with_reducible exact le_dn (by assumption) (by decide)) hge
  have hbig2 : Big (b ^ due.length - 1) := by unfold Big at *; omega
  have lc := Big.len hw h2 hbig2
  have lc1 := hp.lenB (k := 10) hw (by with_reducible exact zlt_dn (by assumption) (by decide))
  obtain ⟨whole, rest, e3, h3, h4⟩ := divrem_spec (X := none) (d := 40) (by with_reducible exact Nat.le_add_left _ _) hw h2 hp (by unfold lenLim; with_reducible exact lt_dn (by assumption) (by decide)) (by unfold lenLim; with_reducible exact lt_dn (by assumption) (by decide)) hp0
  rw [K.dv] at h4
  have h4' : rest = [] := (h4.nil_iff (by with_reducible exact zlt_tr (by assumption) (by decide))).mpr rfl
  subst h4'
  have e2' : callI (TT none) 40 (.fn 4) none [vi c1, .list [.int 1], .int w] = some (vi c2, []) := e2
  exact ⟨whole, by unfold lfr L3; (simp! [e1, e2', e3] <;> rfl), h3⟩

theorem ev4 {whole : List Int} (hw : W w) (hw4 : 4 ≤ w) (hb2 : 2 ≤ b) (hb13 : b ≤ 13) (K : CkF b p due) (hp0 : 0 < p) (hwh : Num (2 ^ w) ((b ^ due.length - 1) / p) whole) (hbig : Big (b ^ due.length)) :
    ∃ f, xS (callI (TT none) 40) L4 (lfr (.val (vi due)) (.val (vi row)) (.val (vi prime)) (.val (vi whole)) (.val (vi [])) .unset .unset .unset .unset p w b le (.val (.int due.length))) = some (.next, lfr (.val (vi due)) (.val (vi row)) (.val (vi prime)) (.val (vi whole)) (.val (vi [])) (.val (vi (List.reverse f))) .unset .unset .unset p w b le (.val (.int due.length))) ∧
      Num b ((b ^ due.length - 1) / p) f := by
  have h16 := pow_mono (show (0 : Int) < 2 by with_reducible decide) hw4
  have hge : 1 ≤ b ^ due.length := by have := pow_pos' (show 0 < b by with_reducible exact zlt_tr (by assumption) (by decide)) due.length; omega
  have hbig2 : Big ((b ^ due.length - 1) / p) := by
    have h1 : (b ^ due.length - 1) / p ≤ b ^ due.length - 1 := Int.ediv_le_self p (by with_reducible exact Int.sub_nonneg_of_le (by assumption))
    unfold Big at *; omega
  obtain ⟨f, e, hf⟩ := to_digits_spec (X := none) (d := 40) (least := le) hw hb2 (by omega) hwh hbig2 (by with_reducible exact Nat.le_add_left _ _)
  exact ⟨f, by unfold lfr L4; (simp! [e] <;> rfl), hf⟩

theorem ev5a {a3 s5 s6 s7 s8 : Slot} : evalB (callI (TT none) 40) L5a (lfr (.val (vi due)) (.val (vi row)) (.val (vi prime)) a3 (.val (vi [])) s5 s6 s7 s8 p w b le (.val (.int due.length))) = some (false, lfr (.val (vi due)) (.val (vi row)) (.val (vi prime)) a3 (.val (vi [])) s5 s6 s7 s8 p w b le (.val (.int due.length))) := by
  unfold lfr L5a; (simp! [intsV] <;> rfl)
theorem ev5b {a3 a4 s6 s7 s8 : Slot} {f : List Int} (hl : due.length < 20) (hf : f.length ≤ due.length) (hpad : List.replicate (due.length - f.length) 0 ++ f.reverse = due) : evalB (callI (TT none) 40) L5b (lfr (.val (vi due)) (.val (vi row)) (.val (vi prime)) a3 a4 (.val (vi (List.reverse f))) s6 s7 s8 p w b le (.val (.int due.length))) = some (false, lfr (.val (vi due)) (.val (vi row)) (.val (vi prime)) a3 a4 (.val (vi (List.reverse f))) s6 s7 s8 p w b le (.val (.int due.length))) := by
  have lr : (List.reverse f).length ≤ lenLim := by rw [List.length_reverse]; unfold lenLim; omega
  have hrep : bin .mul (.list [.int 0]) (.int ((due.length : Int) - ((List.reverse f).length : Int))) = some (.fresh ((List.replicate (due.length - f.length) 0).map .int)) := by
    rw [List.length_reverse, show ((due.length : Int) - (f.length : Int)) = ((due.length - f.length : Nat) : Int) from by with_reducible exact (Int.ofNat_sub (by assumption)).symm]; exact bin_rep (by unfold lenLim; omega)
  have hadd : bin .add (.list ((List.replicate (due.length - f.length) (0 : Int)).map .int)) (.list ((List.reverse f).map .int)) = some (.fresh (due.map .int)) := by
    simp only [bin]
    rw [if_pos (by simp; unfold lenLim; omega), ← List.map_append, hpad]
  unfold lfr L5b; (simp! [lr, hrep, hadd] <;> rfl)
theorem ev5c {a3 a4 s5 s6 s7 s8 : Slot} (K : CkF b p due) : evalB (callI (TT none) 40) L5c (lfr (.val (vi due)) (.val (vi row)) (.val (vi prime)) a3 a4 s5 s6 s7 s8 p w b le (.val (.int due.length))) = some (false, lfr (.val (vi due)) (.val (vi row)) (.val (vi prime)) a3 a4 s5 s6 s7 s8 p w b le (.val (.int due.length))) := by
  have h0 := K.m0
  have hm := binI_mod (a := p - 1) (b := (due.length : Int)) (by omega)
  rw [K.pm] at hm
  unfold lfr L5c; (simp! [hm] <;> rfl)

theorem ev6 {a3 a4 s5 s6 s7 s8 : Slot} (hw : W w) (hl : due.length < 20) :
    ∃ rs, evalEs (callI (TT none) 40) L6 (lfr (.val (vi due)) (.val (vi row)) (.val (vi prime)) a3 a4 s5 s6 s7 s8 p w b le (.val (.int due.length))) = some (rs, lfr (.val (vi due)) (.val (vi row)) (.val (vi prime)) a3 a4 s5 s6 s7 s8 p w b le (.val (.int due.length))) ∧
      ∃ ce, rs.map R.v = [vi row, vi ce, vi prime, .int w, .int 2, .fn 29, .fn 35] ∧ Num (2 ^ w) (due.length : Int) ce := by
  obtain ⟨ce, e, hce⟩ := law_limbs_spec (X := none) (d := 40) (w := w) (n := (due.length : Int)) (by with_reducible exact Nat.le_add_left _ _) hw (by with_reducible exact Int.natCast_nonneg _) (by omega)
  exact ⟨_, by unfold lfr L6; (simp! [e] <;> rfl), ce, rfl, hce⟩
theorem ev7 {a3 a4 s5 s7 s8 : Slot} {k : Int} (hw : W w) (hl : due.length < 20) (hk : 0 < k) (hk2 : k < 10) :
    ∃ rs, evalEs (callI (TT none) 40) L7 (lfr (.val (vi due)) (.val (vi row)) (.val (vi prime)) a3 a4 s5 (.val (.int k)) s7 s8 p w b le (.val (.int due.length))) = some (rs, lfr (.val (vi due)) (.val (vi row)) (.val (vi prime)) a3 a4 s5 (.val (.int k)) s7 s8 p w b le (.val (.int due.length))) ∧
      ∃ ce, rs.map R.v = [vi row, vi ce, vi prime, .int w, .int 1, .fn 29, .fn 35] ∧ Num (2 ^ w) ((due.length : Int) / k) ce := by
  have h1 : 0 ≤ (due.length : Int) / k := Int.ediv_nonneg (by with_reducible exact Int.natCast_nonneg _) (by with_reducible exact Int.le_of_lt (by assumption))
  have h2 : (due.length : Int) / k ≤ due.length := Int.ediv_le_self k (by with_reducible exact Int.natCast_nonneg _)
  obtain ⟨ce, e, hce⟩ := law_limbs_spec (X := none) (d := 40) (w := w) (n := (due.length : Int) / k) (by with_reducible exact Nat.le_add_left _ _) hw h1 (by omega)
  have hd := binI_div (a := (due.length : Int)) (b := k) hk (sm_of (by with_reducible exact Int.natCast_nonneg _) (by omega)) (sm_of (by with_reducible exact Int.le_of_lt (by assumption)) (by with_reducible exact zlt_dn (by assumption) (by decide)))
  exact ⟨_, by unfold lfr L7; (simp! [e, hd] <;> rfl), ce, rfl, hce⟩

theorem ev7t {C : CallF} {fr : Frame} : evalE C L7t fr = some (.val (.tup ([2, 3, 5].map .int)), fr) := by
  unfold L7t; (simp! [] <;> rfl)

theorem ev8 {a3 a4 s5 s6 s7 s8 : Slot} : evalB (callI (TT none) 40) L8 (lfr (.val (vi due)) (.val (vi row)) (.val (vi prime)) a3 a4 s5 s6 s7 s8 p w b le (.val (.int due.length))) = some (decide (due.length % 2 = 1), lfr (.val (vi due)) (.val (vi row)) (.val (vi prime)) a3 a4 s5 s6 s7 s8 p w b le (.val (.int due.length))) := by
  have hm := binI_mod (a := (due.length : Int)) (b := 2) (by with_reducible decide)
  have h2 : decide ((due.length : Int) % 2 = 1) = decide (due.length % 2 = 1) := decide_eq_decide.mpr (by omega)
  unfold lfr L8; simp! [hm]
  rw [h2]

theorem ev9 {a3 a4 s5 s6 s8 : Slot} (hl : due.length < 20) : xS (callI (TT none) 40) L9 (lfr (.val (vi due)) (.val (vi row)) (.val (vi prime)) a3 a4 s5 s6 .unset s8 p w b le (.val (.int due.length))) =
    some (.next, lfr (.val (vi due)) (.val (vi row)) (.val (vi prime)) a3 a4 s5 s6 (.own [vi (due.take (due.length / 2)), vi (due.drop (due.length / 2))]) s8 p w b le (.val (.int due.length))) := by
  have hd := binI_div (a := (due.length : Int)) (b := 2) (by with_reducible decide) (sm_of (by with_reducible exact Int.natCast_nonneg _) (by omega)) (by decide)
  have hle : due.length ≤ lenLim := by unfold lenLim; omega
  have h1 : (due.length : Int) / 2 = ((due.length / 2 : Nat) : Int) := by omega
  rw [h1] at hd
  have c1 := cut_take (l := due) (e := due.length / 2) (by omega)
  have c2 := cut_drop (l := due) (e := due.length / 2) (by omega)
  unfold lfr L9; (simp! [hd, hle, c1, c2] <;> rfl)

theorem ev11c {a3 a4 s5 s6 s7 s8 : Slot} (hl : due.length < 20) : evalE (callI (TT none) 40) L11c (lfr (.val (vi due)) (.val (vi row)) (.val (vi prime)) a3 a4 s5 s6 s7 s8 p w b le (.val (.int due.length))) =
    some (.fresh ((List.replicate (due.length / 2) (b - 1)).map .int), lfr (.val (vi due)) (.val (vi row)) (.val (vi prime)) a3 a4 s5 s6 s7 s8 p w b le (.val (.int due.length))) := by
  have hd := binI_div (a := (due.length : Int)) (b := 2) (by with_reducible decide) (sm_of (by with_reducible exact Int.natCast_nonneg _) (by omega)) (by decide)
  have h1 : (due.length : Int) / 2 = ((due.length / 2 : Nat) : Int) := by omega
  rw [h1] at hd
  have hrep : bin .mul (.list [.int (b - 1)]) (.int ((due.length / 2 : Nat) : Int)) = some (.fresh ((List.replicate (due.length / 2) (b - 1)).map .int)) := bin_rep (by unfold lenLim; omega)
  unfold lfr L11c; (simp! [hd, hrep] <;> rfl)
theorem ev11e {a3 a4 s5 s6 s7 s8 : Slot} (hl : due.length < 20) (hb2 : 2 ≤ b) (hb13 : b ≤ 13) : evalE (callI (TT none) 40) L11e (lfr (.val (vi due)) (.val (vi row)) (.val (vi prime)) a3 a4 s5 s6 s7 s8 p w b le (.val (.int due.length))) =
    some (.val (.int (b ^ (due.length / 2) - 1)), lfr (.val (vi due)) (.val (vi row)) (.val (vi prime)) a3 a4 s5 s6 s7 s8 p w b le (.val (.int due.length))) := by
  have hd := binI_div (a := (due.length : Int)) (b := 2) (by with_reducible decide) (sm_of (by with_reducible exact Int.natCast_nonneg _) (by omega)) (by decide)
  have h1 : (due.length : Int) / 2 = ((due.length / 2 : Nat) : Int) := by omega
  rw [h1] at hd
  have hp := binI_pow (a := b) (n := due.length / 2) (by omega) (sm_of (by with_reducible exact zle_tr (by assumption) (by decide)) (by omega))
  unfold lfr L11e; (simp! [hd, hp] <;> rfl)

theorem ev10v {C : CallF} {a1 a2 a3 a4 a5 a6 a7 a8 a9 : Slot} {x y : List Int} : evalE C (.var 7) (lfr a1 a2 a3 a4 a5 a6 a7 (.own [vi x, vi y]) a8 p w b le a9) = some (.val (.list ([x, y].map vi)), lfr a1 a2 a3 a4 a5 a6 a7 (.val (.list [vi x, vi y])) a8 p w b le a9) := by
  unfold lfr; (simp! [] <;> rfl)
theorem ev11a {C : CallF} {a1 a2 a3 a4 a5 a6 a7 a8 a9 : Slot} {x y : List Int} : evalE C (.idxv 7 (.int 0)) (lfr a1 a2 a3 a4 a5 a6 a7 (.val (.list [vi x, vi y])) a8 p w b le a9) = some (.val (vi x), lfr a1 a2 a3 a4 a5 a6 a7 (.val (.list [vi x, vi y])) a8 p w b le a9) := by
  have hi : item [vi x, vi y] 0 = some (vi x) := by
    unfold item; rw [if_pos (by decide), if_pos (by decide)]; rfl
  unfold lfr; (simp! [hi] <;> rfl)
theorem ev11b {C : CallF} {a1 a2 a3 a4 a5 a6 a7 a8 a9 : Slot} {x y : List Int} : evalE C (.idxv 7 (.int 1)) (lfr a1 a2 a3 a4 a5 a6 a7 (.val (.list [vi x, vi y])) a8 p w b le a9) = some (.val (vi y), lfr a1 a2 a3 a4 a5 a6 a7 (.val (.list [vi x, vi y])) a8 p w b le a9) := by
  have hi : item [vi x, vi y] 1 = some (vi y) := by
    unfold item; rw [if_pos (by decide), if_pos (by decide)]; rfl
  unfold lfr; (simp! [hi] <;> rfl)
theorem ev11d {C : CallF} {a1 a2 a3 a4 a5 a6 a7 a8 a9 : Slot} {ns : List Int} : evalE C (.var 8) (lfr a1 a2 a3 a4 a5 a6 a7 a8 (.val (vi ns)) p w b le a9) = some (.val (vi ns), lfr a1 a2 a3 a4 a5 a6 a7 a8 (.val (vi ns)) p w b le a9) := by
  unfold lfr; (simp! [] <;> rfl)

theorem ev10 {h : List Int} (hw : W w) (hw4 : 4 ≤ w) (hb2 : 2 ≤ b) (hb13 : b ≤ 13) (hd : Dig b h) (hl : h.length < 20) (hbig : b ^ h.length < 2 ^ 1000) :
    ∃ cI, callI (TT none) 40 (.fn 22) none [vi h, .int b, .int w, .int le, .fn 29] = some (vi cI, []) ∧ Num (2 ^ w) (val b h.reverse) cI ∧ cI.length ≤ 1000 := by
  have h16 := pow_mono (show (0 : Int) < 2 by with_reducible decide) hw4
  obtain ⟨c, e, hc⟩ := from_digits_spec (X := none) (d := 40) (least := le) hw hb2 (by omega) (by omega) hd hbig
  have hlt := val_lt (B := b) (by with_reducible exact zlt_tr (by assumption) (by decide)) (l := h.reverse) (hd.sub fun x hx => by simpa using hx)
  rw [List.length_reverse] at hlt
  exact ⟨c, e, hc, Big.len hw hc (by unfold Big; with_reducible exact Int.lt_trans (by assumption) (by assumption))⟩
end
end Mine
end PLv

section PBr1
set_option maxRecDepth 100000
open PySem PySem.W PySem.Spec PySem.Calls PyProof.Rows
namespace Mine
noncomputable def Halt (p : Prop) : Prop := p
theorem halt {p : Prop} (h : Halt p) : p := h
theorem halted {p : Prop} (h : p) : Halt p := h

theorem lookup_mem {β : Type} : ∀ {l : List (Nat × β)} {k : Nat} {b : β}, l.lookup k = some b → (k, b) ∈ l
  | (k', b') :: l, k, b, h => by
    simp only [List.lookup] at h
    split at h
    · rename_i q; cases h; rw [beq_iff_eq.mp q]; exact .head _
    · exact .tail _ (lookup_mem h)
noncomputable def AllP {α : Type} (p : α → Prop) : List α → Prop
  | [] => True
  | x :: l => p x ∧ AllP p l
theorem AllP.mem {α : Type} {p : α → Prop} : ∀ {l : List α} {x : α}, AllP p l → x ∈ l → p x
  | y :: l, x, h, hx => by
    rcases List.mem_cons.mp hx with rfl | hx
    · exact h.1
    · exact AllP.mem h.2 hx
theorem tab_ok (q : Nat) (P : Params) (Z : Led) : ∀ k fd, tab.lookup k = some fd → Nonempty (FnD (hK P) (fa q) Z k fd) := by
  intro k fd h
  have hA : AllP (fun p : Nat × FDef => Nonempty (FnD (hK P) (fa q) Z p.1 p.2)) tab := ⟨ok_normal q P Z, ok_nat_of q P Z, ok_compare q P Z, ok_add q P Z, ok_sub q P Z, ok_mul_limb q P Z, ok_divrem_limb q P Z, ok_shift_left q P Z, ok_shift_right q P Z, ok_bits q P Z, ok_bit q P Z, ok_check_base q P Z, ok_digit_off q P Z, ok_digits_plain q P Z, ok_base_powers q P Z, ok_with_noughts q P Z, ok_digits_by_powers q P Z, ok_to_digits q P Z, ok_times_base q P Z, ok_number_plain q P Z, ok_number_by_powers q P Z, ok_from_digits q P Z, ok_power q P Z, ok_odd_powers q P Z, ok_window_at q P Z, ok_by_windows q P Z, ok_check_modulus q P Z, ok_unit_rest q P Z, ok_mul_school q P Z, ok_divrem_small q P Z, ok_guessed_limb q P Z, ok_take_away q P Z, ok_put_back q P Z, ok_divide_rows q P Z, ok_divrem_school q P Z, ok_law_turned q P Z, ok_law_limbs q P Z, ok_law_divided q P Z, trivial⟩
  exact hA.mem (lookup_mem h)

theorem TT_ok (q : Nat) (P : Params) (Z : Led) : ∀ k fd, TT none k = some fd → Nonempty (FnD (hK P) (fa q) Z k fd) := by
  intro k fd h
  unfold TT at h
  split at h
  · cases h
  · exact tab_ok q P Z k fd h

section
variable {prog : Program} {w : World} {P : Params} {X : Option FDef} {q : Nat} {Z : Led} {p : Program} {loose : List Str} {mean : ExcName → Option Value} {mg mb : Str → Option Value} {A₀ A : Around} {s : Shared} {base h₀ : Heap} {outer : List Env} {L : Addr} {m : Str → Option Value} {env : Env} {news : Led} {E Q : Value → Shared → Prop}

theorem br {k : Nat} {args : List V} {ws : List Value} {r : V} {o : List V} (hT : ∀ k fd, TT X k = some fd → Nonempty (FnD (hK P) (fa q) Z k fd)) (h : callI (TT X) 40 (.fn k) none args = some (r, o))
    (B : Below A₀ base outer h₀) (F : Fr h₀ L s.heap m) (X₀ : (hK P).In h₀) (N : News h₀ L s.heap news) (T : Top p loose mean mg mb h₀) (hA : A.frames = some (env :: outer)) (hf : env.frame = some L) (hke : env.scope.kind = .function) (hh : A.handled = none)
    (hroom : A.depth + 40 < recursionLimit) (hun : A.units + 420 < cLine) (hz : ∀ z ∈ Z, z ∈ news) (hv : Vals (fa q) news args ws)
    (kk : ∀ rv fz' h' tk', (∀ e ∈ news, e ∈ fz') → Fr h₀ L h' m → News h₀ L h' fz' → Val (fa q) fz' r rv → Q rv { s with heap := h', toks := tk' }) : wpAny (model prog w) A (call (.ref (fa q k)) ws) Q E s := by
  have hC := callSound (prog := prog) (w := w) (p := p) (loose := loose) (mean := mean) (mg := mg) (mb := mb) hT 40
  have hr := hC.run k none args r o h env L outer A A₀ base h₀ m news [] s ws 0 Q hf hke hh hA hroom (by with_reducible assumption) B X₀ T F (by simpa using N) (fun _ _ _ h => by simp at h) hz hv (fun _ e => by cases e)
    (fun rv fz' h' tk' h1 h2 h3 _ h5 _ => kk rv fz' h' tk' h1 h2 (by simpa using h3) h5)
  exact wpAny_mono hr (fun _ _ x => x) (fun _ _ x => False.elim x)

theorem brL {k : Nat} {args : List V} {ws : List Value} {Pc : List Int → Prop} (hT : ∀ k fd, TT X k = some fd → Nonempty (FnD (hK P) (fa q) Z k fd)) (h : ∃ c, callI (TT X) 40 (.fn k) none args = some (vi c, []) ∧ Pc c)
    (B : Below A₀ base outer h₀) (F : Fr h₀ L s.heap m) (X₀ : (hK P).In h₀) (N : News h₀ L s.heap news) (T : Top p loose mean mg mb h₀) (hA : A.frames = some (env :: outer)) (hf : env.frame = some L) (hke : env.scope.kind = .function) (hh : A.handled = none)
    (hroom : A.depth + 40 < recursionLimit) (hun : A.units + 420 < cLine) (hz : ∀ z ∈ Z, z ∈ news) (hv : Vals (fa q) news args ws)
    (kk : ∀ c a its n h' tk', Pc c → IntsAre its c → Fr h₀ L h' m → News h₀ L h' ((a, W.listOf (its : List Value).toArray n) :: news) → Q (.ref a) { s with heap := h', toks := tk' }) : wpAny (model prog w) A (call (.ref (fa q k)) ws) Q E s := by
  obtain ⟨c, e, hp⟩ := h
  refine br hT e B F X₀ N T hA hf hke hh hroom hun hz hv fun rv fz' h' tk' h1 F' N' v => ?_
  refine Val.listE v fun _ _ _ hm hvs => ?_
  exact kk c _ _ _ h' tk' hp (hvs.ints (intsV_map c)) F' (fun e he => by
    rcases List.mem_cons.mp he with rfl | he
    · exact N' _ hm
    · exact N' _ (h1 e he))

theorem brT {k : Nat} {args : List V} {ws : List Value} {Pc : List Int → List Int → Prop} (hT : ∀ k fd, TT X k = some fd → Nonempty (FnD (hK P) (fa q) Z k fd)) (h : ∃ c d, callI (TT X) 40 (.fn k) none args = some (.tup [vi c, vi d], []) ∧ Pc c d)
    (B : Below A₀ base outer h₀) (F : Fr h₀ L s.heap m) (X₀ : (hK P).In h₀) (N : News h₀ L s.heap news) (T : Top p loose mean mg mb h₀) (hA : A.frames = some (env :: outer)) (hf : env.frame = some L) (hke : env.scope.kind = .function) (hh : A.handled = none)
    (hroom : A.depth + 40 < recursionLimit) (hun : A.units + 420 < cLine) (hz : ∀ z ∈ Z, z ∈ news) (hv : Vals (fa q) news args ws)
    (kk : ∀ c d a b t its jts i j n h' tk', Pc c d → IntsAre its c → IntsAre jts d → Fr h₀ L h' m → News h₀ L h' ((t, ({ cls := .type "tuple", data := .seq #[.ref a, .ref b] n } : Obj)) :: (a, W.listOf (its : List Value).toArray i) :: (b, W.listOf (jts : List Value).toArray j) :: news) → Q (.ref t) { s with heap := h', toks := tk' }) :
    wpAny (model prog w) A (call (.ref (fa q k)) ws) Q E s := by
  obtain ⟨c, d, e, hp⟩ := h
  refine br hT e B F X₀ N T hA hf hke hh hroom hun hz hv fun rv fz' h' tk' h1 F' N' v => ?_
  refine Val.tupE v fun _ _ _ hm hvs => ?_
  cases hvs with | cons v1 hvs =>
  cases hvs with | cons v2 hvs =>
  cases hvs
  cases v1 with | list m1 w1 =>
  cases v2 with | list m2 w2 =>
  exact kk c d _ _ _ _ _ _ _ _ h' tk' hp (w1.ints (intsV_map c)) (w2.ints (intsV_map d)) F' (fun e he => by
    rcases List.mem_cons.mp he with rfl | he
    · exact N' _ hm
    rcases List.mem_cons.mp he with rfl | he
    · exact N' _ m1
    rcases List.mem_cons.mp he with rfl | he
    · exact N' _ m2
    · exact N' _ (h1 e he))

theorem brN {k : Nat} {args : List V} {ws : List Value} (hT : ∀ k fd, TT X k = some fd → Nonempty (FnD (hK P) (fa q) Z k fd)) (h : callI (TT X) 40 (.fn k) none args = some (.none, []))
    (B : Below A₀ base outer h₀) (F : Fr h₀ L s.heap m) (X₀ : (hK P).In h₀) (N : News h₀ L s.heap news) (T : Top p loose mean mg mb h₀) (hA : A.frames = some (env :: outer)) (hf : env.frame = some L) (hke : env.scope.kind = .function) (hh : A.handled = none)
    (hroom : A.depth + 40 < recursionLimit) (hun : A.units + 420 < cLine) (hz : ∀ z ∈ Z, z ∈ news) (hv : Vals (fa q) news args ws)
    (kk : ∀ h' tk', Fr h₀ L h' m → News h₀ L h' news → Q .none { s with heap := h', toks := tk' }) : wpAny (model prog w) A (call (.ref (fa q k)) ws) Q E s := by
  refine br hT h B F X₀ N T hA hf hke hh hroom hun hz hv fun rv fz' h' tk' h1 F' N' v => ?_
  cases v
  exact kk h' tk' F' fun e he => N' _ (h1 e he)

theorem apart_of {h : Heap} {news : Led} {a b : Addr} {its : List Value} {n : Nat} {o : Obj} {v : Option Value} (N : News h₀ L h news) (h1 : (a, W.listOf its.toArray n) ∈ news) (h2 : (b, o) ∈ news) (h3 : o.data = .cell v) : b ≠ a := by
  intro e
  subst e
  have e1 := (N _ h1).1
  have e2 := (N _ h2).1
  rw [e1] at e2
  cases e2
  cases h3
end
end Mine
end PBr1

section PBr2
set_option maxRecDepth 100000
open PySem PySem.W PySem.Spec PySem.Calls PyProof.Rows
namespace Mine
section
variable {prog : Program} {w : World} {P : Params} {p : Program} {loose : List Str} {mean : ExcName → Option Value} {mg mb : Str → Option Value} {A₀ A : Around} {s : Shared} {base h₀ : Heap} {outer : List Env} {L : Addr} {m : Str → Option Value} {env : Env} {news : Led} {E Q : Value → Shared → Prop}

theorem cells4 {h : Heap} {a : Addr} {its : List Value} {n : Nat} {o1 o2 o3 o4 : Obj} {v1 v2 v3 v4 : Option Value} (F : Fr h₀ L h m) (N : News h₀ L h news) (h1 : (a, W.listOf its.toArray n) ∈ news)
    (m1 : (L + 1, o1) ∈ news) (m2 : (L + 1 + 1, o2) ∈ news) (m3 : (L + 1 + 1 + 1, o3) ∈ news) (m4 : (L + 1 + 1 + 1 + 1, o4) ∈ news)
    (d1 : o1.data = .cell v1) (d2 : o2.data = .cell v2) (d3 : o3.data = .cell v3) (d4 : o4.data = .cell v4) : @Ne Nat (L + 1) a ∧ @Ne Nat (L + 1 + 1) a ∧ @Ne Nat (L + 1 + 1 + 1) a ∧ @Ne Nat (L + 1 + 1 + 1 + 1) a :=
  ⟨apart_of N h1 m1 d1, apart_of N h1 m2 d2, apart_of N h1 m3 d3, apart_of N h1 m4 d4⟩

theorem c_turned {l D : Addr} {c k : Int} {tk tk2 : Tok} {n nD : Nat} {its : List Value} {ns : List Int} {g : Obj → Led}
    (B : Below A₀ base outer h₀) (F : Fr h₀ L s.heap m) (X₀ : (hK P).In h₀) (N : News h₀ L s.heap news) (T : Top p loose mean mg mb h₀) (hA : A.frames = some (env :: outer)) (hf : env.frame = some L) (hke : env.scope.kind = .function) (hh : A.handled = none)
    (hroom : A.depth + 40 < recursionLimit) (hun : A.units + 420 < cLine)
    (U : UpdF l (W.listOf #[.int c tk, .ref D] n) news g) (hm : (D, W.listOf its.toArray nD) ∈ news) (hI : IntsAre its ns) (ln : ns.length ≤ lenLim) (hc : 0 ≤ c) (hc2 : c < 1000) (hk : 0 < k)
    (kk : ∀ r tk1 tk' D' its' n' n2 h' tkk, 0 ≤ r → r < k → @Ne Nat l D' → IntsAre its' ns → Fr h₀ L h' m → News h₀ L h' ((D', W.listOf (its' : List Value).toArray n2) :: g (W.listOf #[.int (c + 1) tk', .ref D'] n')) → Q (.int r tk1) { s with heap := h', toks := tkk }) :
    wpAny (model prog w) A (call (.ref 324) [.ref l, .int k tk2]) Q E s := by
  obtain ⟨pre, post, rfl, hg, hpre, hpost⟩ := U.split
  obtain ⟨r, e, r0, r1⟩ := law_turned_spec (X := none) (d := 40) (c := c) (m := k) (ns := ns) (by with_reducible exact Nat.le_add_left _ _) hk hc hc2 ln
  have hC := callSound (prog := prog) (w := w) (p := p) (loose := loose) (mean := mean) (mg := mg) (mb := mb) (TT_ok 0 P []) 40
  have hz := N (l, W.listOf #[.int c tk, .ref D] n) (by simp)
  have hD : (D, W.listOf its.toArray nD) ∈ pre ++ post := by
    rcases List.mem_append.mp hm with h | h
    · exact List.mem_append_left _ h
    · rcases List.mem_cons.mp h with h | h
      · exfalso
        have h2 := congrArg (fun e : Addr × Obj => e.2.data) h
        simp only [W.listOf, Data.seq.injEq] at h2
        have h3 : its = [.int c tk, .ref D] := by
          have := congrArg Array.toList h2.1
          simpa using this
        rw [h3] at hI
        cases hI with | cons _ _ h => cases h
      · exact List.mem_append_right _ h
  have NF : News h₀ L s.heap ((pre ++ post) ++ []) := fun e he => N e (by
    rw [List.append_nil] at he
    rcases List.mem_append.mp he with h | h
    · exact List.mem_append_left _ h
    · exact List.mem_append_right _ (.tail _ h))
  have O : OwnAt (fa 0) h₀ L s.heap (pre ++ post) [] l [.int c, vi ns] :=
    ⟨⟨[.int c tk, .ref D], n, hz.1, .cons (.int c tk) (.cons (.list hD (Vals.ofInts hI)) .nil)⟩, hz.2.1, hz.2.2, fun e he => by
      rcases List.mem_append.mp he with h | h
      · exact hpre e h
      · exact hpost e h, fun e he => by simp at he⟩
  have hr := hC.run 36 (some [.int c, vi ns]) [.int k] (.int r) _ e env L outer A A₀ base h₀ m (pre ++ post) [] s [.int k tk2] l Q hf hke hh hA hroom (by with_reducible assumption) B X₀ T F NF (fun _ _ _ h => by simp at h) (fun _ h => by simp at h) (.cons (.int k tk2) .nil) (fun vs e => by cases e; exact O) ?_
  · exact wpAny_mono hr (fun _ _ x => x) (fun _ _ x => False.elim x)
  · intro rv fz' h' tkk hs F' N' _ v O'
    have O2 := O' rfl
    obtain ⟨its2, n', eg, hv⟩ := O2.get
    cases hv with | cons v1 hv =>
    cases hv with | cons v2 hv =>
    cases hv
    cases v1
    cases v2 with | list m2 w2 =>
    cases v
    rename_i tk' D' its3 n2 tk1
    refine kk r tk1 tk' D' its3 n' n2 h' tkk r0 r1 (Ne.symm (O2.offF _ m2)) (w2.ints (intsV_map ns)) F' fun e he => ?_
    rcases List.mem_cons.mp he with rfl | he
    · exact N' _ (List.mem_append_left _ m2)
    · rw [hg] at he
      rcases List.mem_append.mp he with h | h
      · exact N' _ (List.mem_append_left _ (hs _ (List.mem_append_left _ h)))
      · rcases List.mem_cons.mp h with rfl | h
        · exact ⟨eg, O2.ne, O2.new⟩
        · exact N' _ (List.mem_append_left _ (hs _ (List.mem_append_right _ h)))
end
end Mine
end PBr2

section PBr3
set_option maxRecDepth 100000
open PySem PySem.W PySem.Spec PySem.Calls PyProof.Rows
namespace Mine
noncomputable abbrev psL : List Int := [3, 5, 7, 11, 13, 17, 19]
theorem ps_mem {r : Int} (h0 : 0 ≤ r) (h1 : r < 7) : psL.getD r.toNat 0 ∈ psL := by
  have : r = 0 ∨ r = 1 ∨ r = 2 ∨ r = 3 ∨ r = 4 ∨ r = 5 ∨ r = 6 := by omega
  rcases this with rfl | rfl | rfl | rfl | rfl | rfl | rfl <;> decide
theorem ps_bd {p : Int} (h : p ∈ psL) : 3 ≤ p ∧ p ≤ 19 := by
  simp only [psL, List.mem_cons, List.not_mem_nil, or_false] at h
  omega
theorem ps_lo {r : Int} (h0 : 0 ≤ r) (h1 : r < 7) : 0 ≤ psL.getD r.toNat 0 := by have := ps_bd (ps_mem h0 h1); omega
theorem ps_hi {r : Int} (h0 : 0 ≤ r) (h1 : r < 7) : psL.getD r.toNat 0 < 1000 := by have := ps_bd (ps_mem h0 h1); omega
theorem ps_pos {r : Int} (h0 : 0 ≤ r) (h1 : r < 7) : 0 < psL.getD r.toNat 0 := by have := ps_bd (ps_mem h0 h1); omega
theorem big_pow {b : Int} {k : Nat} (h2 : 2 ≤ b) (h13 : b ≤ 13) (hk : k < 20) : Big (b ^ k) := by
  have h1 : ∀ j : Nat, b ^ j ≤ 16 ^ j := fun j => by
    induction j with
    | zero => simp
    | succ j ih =>
      have hp := pow_pos' (show 0 < b by with_reducible exact zlt_tr (by assumption) (by decide)) j
      have h3 : b ^ j * b ≤ b ^ j * 16 := Int.mul_le_mul_of_nonneg_left (by omega) (by with_reducible exact Int.le_of_lt (by assumption))
      have h4 : b ^ j * 16 ≤ 16 ^ j * 16 := Int.mul_le_mul_of_nonneg_right ih (by with_reducible decide)
      rw [Int.pow_succ, Int.pow_succ]; with_reducible exact Int.le_trans (by assumption) (by assumption)
  have h5 := h1 k
  have h6 := pow_mono (show (0 : Int) < 16 by with_reducible decide) (show k ≤ 20 by with_reducible exact Nat.le_of_lt (by assumption))
  have h7 : (16 : Int) ^ 20 < 2 ^ 100 := by decide
  have h8 := pow_mono (show (0 : Int) < 2 by with_reducible decide) (show 100 ≤ 1000 by with_reducible exact Nat.le_add_left _ _)
  unfold Big
  omega
theorem fm_ne {x p : Int} (h : p ∈ psL) (e : x.fmod p ≠ 0) : x % p ≠ 0 := by
  have := ps_bd h
  rwa [Int.fmod_eq_emod_of_nonneg _ (by omega)] at e
theorem fm_succ {x p : Int} (h : p ∈ psL) (e : x.fmod p = 0) : (x + 1) % p ≠ 0 := by
  have := ps_bd h
  rw [Int.fmod_eq_emod_of_nonneg _ (by omega)] at e
  rw [Int.add_emod, e, Int.zero_add, Int.emod_emod_of_dvd _ (Int.dvd_refl p), Int.emod_eq_of_lt (by with_reducible decide) (by omega)]
  decide
section
variable {prog : Program} {w : World} {P : Params} {p : Program} {loose : List Str} {mean : ExcName → Option Value} {mg mb : Str → Option Value} {A₀ A : Around} {s : Shared} {base h₀ : Heap} {outer : List Env} {L : Addr} {m : Str → Option Value} {env : Env} {news : Led} {E Q : Value → Shared → Prop}

theorem c_divrem {n pr wi : Int} {a a1 : Addr} {its its1 : List Value} {i i1 : Nat} {c c1 : List Int} {t2 : Tok}
    (B : Below A₀ base outer h₀) (F : Fr h₀ L s.heap m) (X₀ : (hK P).In h₀) (N : News h₀ L s.heap news) (T : Top p loose mean mg mb h₀) (hA : A.frames = some (env :: outer)) (hf : env.frame = some L) (hke : env.scope.kind = .function) (hh : A.handled = none)
    (hroom : A.depth + 40 < recursionLimit) (hun : A.units + 420 < cLine)
    (hm : (a, W.listOf its.toArray i) ∈ news) (hm1 : (a1, W.listOf its1.toArray i1) ∈ news) (hI : IntsAre its c) (hI1 : IntsAre its1 c1) (hc : Num (2 ^ wi.toNat) n c ∧ Big n) (hc1 : Num (2 ^ wi.toNat) pr c1) (hp : 0 < pr) (hp2 : pr < 1000) (hw : 4 ≤ wi) (hw2 : wi ≤ 8)
    (kk : ∀ c d a b t its jts i j n1 h' tk', (Num (2 ^ wi.toNat) (n / pr) c ∧ Num (2 ^ wi.toNat) (n % pr) d ∧ Big (n / pr)) → IntsAre its c → IntsAre jts d → Fr h₀ L h' m → News h₀ L h' ((t, ({ cls := .type "tuple", data := .seq #[.ref a, .ref b] n1 } : Obj)) :: (a, W.listOf (its : List Value).toArray i) :: (b, W.listOf (jts : List Value).toArray j) :: news) → Q (.ref t) { s with heap := h', toks := tk' }) :
    wpAny (model prog w) A (call (.ref 317) [.ref a, .ref a1, .int wi t2]) Q E s := by
  have hwn : wi = (wi.toNat : Int) := by omega
  have hW : W wi.toNat := ⟨by omega, by omega⟩
  have lc := Big.len hW hc.1 hc.2
  have lc1 := hc1.lenB (k := 10) hW (by with_reducible exact zlt_dn (by assumption) (by decide))
  have n0 := hc.1.nonneg (by have := hW.two; with_reducible exact zlt_tr (by assumption) (by decide))
  have hb : Big (n / pr) := by
    have h1 : n / pr ≤ n := Int.ediv_le_self pr n0
    have := hc.2; unfold Big at *; with_reducible exact Int.lt_of_le_of_lt (by assumption) (by assumption)
  obtain ⟨q, r, e, hq, hr⟩ := divrem_spec (X := none) (d := 40) (by with_reducible exact Nat.le_add_left _ _) hW hc.1 hc1 (by unfold lenLim; with_reducible exact lt_dn (by assumption) (by decide)) (by unfold lenLim; with_reducible exact lt_dn (by assumption) (by decide)) hp
  exact brT (k := 35) (q := 0) (Z := []) (Pc := fun c d => Num (2 ^ wi.toNat) (n / pr) c ∧ Num (2 ^ wi.toNat) (n % pr) d ∧ Big (n / pr)) (TT_ok 0 P []) ⟨q, r, e, hq, hr, hb⟩ B F X₀ N T hA hf hke hh hroom hun (fun _ h => by simp at h)
    (.cons (.list hm (Vals.ofInts hI)) (.cons (.list hm1 (Vals.ofInts hI1)) (.cons (by rw [← hwn]; exact .int wi t2) .nil))) kk
end
end Mine
end PBr3

section PBr4
set_option maxRecDepth 100000
open PySem PySem.W PySem.Spec PySem.Calls PyProof.Rows
namespace Mine
theorem emod_pow {x M : Int} : ∀ n : Nat, (x % M) ^ n % M = x ^ n % M
  | 0 => by simp
  | n + 1 => by rw [Int.pow_succ, Int.pow_succ, Int.mul_emod, emod_pow n, Int.emod_emod_of_dvd _ (Int.dvd_refl M), ← Int.mul_emod]
section
variable {prog : Program} {w : World} {P : Params} {p : Program} {loose : List Str} {mean : ExcName → Option Value} {mg mb : Str → Option Value} {A₀ A : Around} {s : Shared} {base h₀ : Heap} {outer : List Env} {L : Addr} {m : Str → Option Value} {env : Env} {news : Led} {E Q : Value → Shared → Prop}

theorem c_chk {M : Int} {wi : Nat} {a : Addr} {its : List Value} {i : Nat} {c : List Int}
    (B : Below A₀ base outer h₀) (F : Fr h₀ L s.heap m) (X₀ : (hK P).In h₀) (N : News h₀ L s.heap news) (T : Top p loose mean mg mb h₀) (hA : A.frames = some (env :: outer)) (hf : env.frame = some L) (hke : env.scope.kind = .function) (hh : A.handled = none)
    (hroom : A.depth + 40 < recursionLimit) (hun : A.units + 420 < cLine)
    (hm : (a, W.listOf its.toArray i) ∈ news) (hI : IntsAre its c) (hc : Num (2 ^ wi) M c) (hM : 0 < M)
    (kk : ∀ h' tk', Fr h₀ L h' m → News h₀ L h' news → Q .none { s with heap := h', toks := tk' }) :
    wpAny (model prog w) A (call (.ref 247) [.ref a]) Q E s :=
  brN (k := 27) (q := 0) (Z := []) (TT_ok 0 P []) (check_modulus_spec (X := none) (d := 40) (by with_reducible exact Nat.le_add_left _ _) (fun q => by have := (hc.nil_iff (by have := pow_pos' (show (0 : Int) < 2 by with_reducible decide) wi; with_reducible assumption)).mp q; omega)) B F X₀ N T hA hf hke hh hroom hun (fun _ h => by simp at h)
    (.cons (.list hm (Vals.ofInts hI)) .nil) kk
theorem c_unit {M : Int} {wi : Nat} {a : Addr} {its : List Value} {i : Nat} {c : List Int}
    (B : Below A₀ base outer h₀) (F : Fr h₀ L s.heap m) (X₀ : (hK P).In h₀) (N : News h₀ L s.heap news) (T : Top p loose mean mg mb h₀) (hA : A.frames = some (env :: outer)) (hf : env.frame = some L) (hke : env.scope.kind = .function) (hh : A.handled = none)
    (hroom : A.depth + 40 < recursionLimit) (hun : A.units + 420 < cLine)
    (hm : (a, W.listOf its.toArray i) ∈ news) (hI : IntsAre its c) (hc : Num (2 ^ wi) M c) (hM : 1 < M)
    (kk : ∀ c' a' its' i' h' tk', c' = [1] → IntsAre its' c' → Fr h₀ L h' m → News h₀ L h' ((a', W.listOf (its' : List Value).toArray i') :: news) → Q (.ref a') { s with heap := h', toks := tk' }) :
    wpAny (model prog w) A (call (.ref 254) [.ref a]) Q E s := by
  have h1 : c ≠ [1] := fun q => by
    subst q
    have := hc.val
    simp [val] at this
    omega
  exact brL (k := 28) (q := 0) (Z := []) (Pc := fun c => c = [1]) (TT_ok 0 P []) ⟨[1], unit_rest_spec (X := none) (d := 40) (by with_reducible exact Nat.le_add_left _ _) h1, rfl⟩ B F X₀ N T hA hf hke hh hroom hun (fun _ h => by simp at h)
    (.cons (.list hm (Vals.ofInts hI)) .nil) kk

theorem News.get2 {h : Heap} {q : Addr × Obj} (N : News h₀ L h news) (hq : q ∈ news) : h.get? q.1 = some q.2 ∧ q.1 ≠ L ∧ h₀.get? q.1 = none := N q hq
theorem ne_tab {h : Heap} {a P : Addr} {o : Obj} {ps : Array Value} (N : News h₀ L h news) (h1 : (a, o) ∈ news) (h2 : (P, tabObj ps) ∈ news) (hc : o.cls ≠ .none) : @Ne Nat a P := by
  intro e
  have e1 := (N _ h1).1
  have e2 := (N _ h2).1
  have e : a = P := e
  rw [e] at e1
  have e3 := e1.symm.trans e2
  cases e3
  exact hc rfl

theorem mult_fnd {Pm : Params} {Z : Led} {q c' : Addr} {name qual : Str} {params : Arguments} {body : List Stmt} {scope : Scope} {clos : List (Str × Addr)} {doc pm ctv : Value} {oc : Obj} {vs : Array Value} {t : Tok} {wn : Nat} {wi : Int} {cM : List Int} {itsM : List Value} {mm : Addr} {iM : Nat} {tw : Tok} {a1 a2 a3 a4 : Addr} {o1 o2 o3 o4 : Obj}
    (hq : (q, fnMade name qual params body scope clos doc pm c' ctv) ∈ Z) (hoc : (c', oc) ∈ Z) (hd : oc.data = .fields vs) (hv : vs[1]? = some (.str qual t))
    (hM : (mm, W.listOf itsM.toArray iM) ∈ Z) (hI : IntsAre itsM cM)
    (l1 : clos.lookup (Str.ofString "m") = some a1) (l2 : clos.lookup (Str.ofString "w") = some a2) (l3 : clos.lookup (Str.ofString "mul") = some a3) (l4 : clos.lookup (Str.ofString "divrem") = some a4)
    (m1 : (a1, o1) ∈ Z) (m2 : (a2, o2) ∈ Z) (m3 : (a3, o3) ∈ Z) (m4 : (a4, o4) ∈ Z)
    (d1 : o1.data = .cell (some (.ref mm))) (d2 : o2.data = .cell (some (.int wi tw))) (hwn : wi = (wn : Int)) (d3 : o3.data = .cell (some (.ref 275))) (d4 : o4.data = .cell (some (.ref 317)))
    (s1 : scope.names.lookup (Str.ofString "m") = some .free) (s2 : scope.names.lookup (Str.ofString "w") = some .free) (s3 : scope.names.lookup (Str.ofString "mul") = some .free) (s4 : scope.names.lookup (Str.ofString "divrem") = some .free)
    (hb : ∀ a b : Value, bindArgs (fnX name qual params body scope clos .none .none doc pm none (.ref c') ctv) ⟨[a, b], []⟩ = pure ([Str.ofString "x", Str.ofString "y"].zip [a, b]))
    (loc : ([Str.ofString "x", Str.ofString "y"].all fun y => decide (scope.names.lookup y = some .local)) = true) (ncell : (scope.names.all fun x => decide (x.2 ≠ .cell)) = true)
    (nco : scope.isCoroutine = false) (ngen : scope.isGenerator = false) (kind : scope.kind = .function)
    (tss : TSs (hK Pm) (fa q) scope [Str.ofString "x", Str.ofString "y", Str.ofString "m", Str.ofString "w", Str.ofString "mul", Str.ofString "divrem"] b_mult body) :
    ∀ k fd, TT (some (d_mult (vi cM) wn)) k = some fd → Nonempty (FnD (hK Pm) (fa q) Z k fd) := by
  intro k fd h
  unfold TT at h
  split at h
  · cases h
    rename_i hk
    have hk' : k = 50 := by simpa using hk
    subst hk'
    refine ⟨{ name := name, qual := qual, params := params, body := body, scope := scope, cl := clos, dV := .none, kV := .none, doc := doc, pm := pm, cdv := .ref c', ct := ctv, oc := .type "function", an := none, od := none, osl := #[], pn := [Str.ofString "x", Str.ofString "y"], cn := [Str.ofString "m", Str.ofString "w", Str.ofString "mul", Str.ofString "divrem"], mn := []
              obj := fun h X hz => ⟨?_, ?_⟩, bind := bt2 hb, npn := rfl, loc := fun y hy => of_decide_eq_true (List.all_eq_true.mp loc y hy), caps := ?_, ncell := fun x hx => of_decide_eq_true (List.all_eq_true.mp ncell x hx)
              nco := nco, ngen := ngen, kind := kind, nod := by decide, more := rfl, tss := tss }⟩
    · exact hz _ hq
    · exact ⟨c', oc, vs, t, rfl, hz _ hoc, hd, hv⟩
    · exact .cons s1 l1 m1 d1 (.list hM (Vals.ofInts hI)) (.cons s2 l2 m2 d2 (by rw [hwn]; exact .int _ _) (.cons s3 l3 m3 d3 (.fn 29) (.cons s4 l4 m4 d4 (.fn 35) .nil)))
  · exact tab_ok q Pm Z k fd h

theorem c_bywin {x M wi si : Int} {En : Int} {q a e one : Addr} {its itsE its1 : List Value} {i iE i1 : Nat} {c cE cM c1 : List Int} {t1 t2 : Tok}
    (B : Below A₀ base outer h₀) (F : Fr h₀ L s.heap m) (X₀ : (hK P).In h₀) (N : News h₀ L s.heap news) (T : Top p loose mean mg mb h₀) (hA : A.frames = some (env :: outer)) (hf : env.frame = some L) (hke : env.scope.kind = .function) (hh : A.handled = none)
    (hroom : A.depth + 40 < recursionLimit) (hun : A.units + 420 < cLine)
    (hT : ∀ k fd, TT (some (d_mult (vi cM) wi.toNat)) k = some fd → Nonempty (FnD (hK P) (fa q) news k fd))
    (hm : (a, W.listOf its.toArray i) ∈ news) (hI : IntsAre its c) (hc : Num (2 ^ wi.toNat) (x % M) c)
    (hmE : (e, W.listOf itsE.toArray iE) ∈ news) (hIE : IntsAre itsE cE) (hcE : Num (2 ^ wi.toNat) En cE) (hE0 : 0 < En) (hE1 : En < 1000)
    (hm1 : (one, W.listOf its1.toArray i1) ∈ news) (hI1 : IntsAre its1 c1)
    (hcM : Num (2 ^ wi.toNat) M cM) (hM : 1 < M) (hM2 : M < 1000) (hw : 4 ≤ wi) (hw2 : wi ≤ 8) (hs1 : 1 ≤ si) (hs2 : si ≤ 10)
    (kk : ∀ c' a' its' i' h' tk', Num (2 ^ wi.toNat) (x ^ En.toNat % M) c' → IntsAre its' c' → Fr h₀ L h' m → News h₀ L h' ((a', W.listOf (its' : List Value).toArray i') :: news) → Q (.ref a') { s with heap := h', toks := tk' }) :
    wpAny (model prog w) A (call (.ref 240) [.ref a, .ref e, .int si t1, .int wi t2, .ref one, .ref q]) Q E s := by
  have hwn : wi = (wi.toNat : Int) := by omega
  have hsn : si = (si.toNat : Int) := by omega
  have hEn : En = (En.toNat : Int) := by omega
  have hW : W wi.toNat := ⟨by omega, by omega⟩
  have hb : M < 2 ^ 400 := by have := pow_mono (show (0 : Int) < 2 by with_reducible decide) (show 10 ≤ 400 by with_reducible exact Nat.le_add_left _ _); with_reducible exact zlt_dn (by assumption) (by decide)
  have hmd := md (a := x) (show 0 < M by with_reducible exact zlo (by assumption))
  have ht : ∀ d', 40 ≤ d' + 2 → Times (some (d_mult (vi cM) wi.toNat)) d' wi.toNat M := fun d' hd' a b x y ha hb' hx hy => mult_spec (by omega) hW hcM (by with_reducible exact zlo (by assumption)) hb ha hb' hx hy
  obtain ⟨c', e', hc'⟩ := by_windows_spec (X := some (d_mult (vi cM) wi.toNat)) (d := 40) (size := si.toNat) (E := En.toNat) (one := vi c1) (by with_reducible exact Nat.le_add_left _ _) hW ht (by with_reducible exact zlo (by assumption)) hmd.2 hmd.1 hc (by rw [← hEn]; exact hcE) (by omega) (by
    have h2 : En.toNat < 1000 := by omega
    have : (1000 : Nat) < 2 ^ 40 := by decide
    with_reducible exact Nat.lt_trans (by assumption) (by assumption)) (by omega) (by omega)
  rw [emod_pow] at hc'
  exact brL (k := 26) (q := q) (Z := news) (Pc := fun c => Num (2 ^ wi.toNat) (x ^ En.toNat % M) c) hT ⟨c', e', hc'⟩ B F X₀ N T hA hf hke hh hroom hun (fun _ h => h)
    (.cons (.list hm (Vals.ofInts hI)) (.cons (.list hmE (Vals.ofInts hIE)) (.cons (by rw [← hsn]; exact .int si t1) (.cons (by rw [← hwn]; exact .int wi t2) (.cons (.list hm1 (Vals.ofInts hI1)) (.cons (.fn 50) .nil)))))) kk
end
end Mine
end PBr4

section PComp
set_option maxRecDepth 100000
open PySem PySem.W PySem.Spec PySem.Calls PyProof.Rows
namespace Mine

noncomputable def KeepsL (L : Addr) (s s' : Shared) : Prop := ∃ h' tk, s' = { s with heap := h', toks := tk } ∧ ∀ b o, b ≠ L → s.heap.get? b = some o → h'.get? b = some o

theorem leN {a b : Nat} (h : a ≤ b) : a ≤ b := h
theorem frMove {h₀ h h' : Heap} {L : Addr} {m : Str → Option Value} {X : Addr → Prop} (F : Fr h₀ L h m) (hk : ∀ b o, ¬ X b → h.get? b = some o → h'.get? b = some o) (hX : ∀ b, X b → h₀.get? b = none ∧ b ≠ L) : Fr h₀ L h' m :=
  ⟨F.ns.at' fun o e => hk L o (fun q => (hX L q).2 rfl) e, fun b o e => hk b o (fun q => by rw [(hX b q).1] at e; cases e) (F.keep b o e), F.above⟩

section
variable {prog : Program} {w : World} {A : Around} {E : Value → Shared → Prop} {s : Shared} {h₀ : Heap} {L : Addr} {m : Str → Option Value} {env : Env}

theorem compLoop_gen {elt target iter : Expr} {ifs : List Expr} {scope : Scope} {pos : Pos} {it acc : Value} {env : Env} {R : Result → Shared → Prop} (I : Nat → Shared → Prop)
    (turn : ∀ n s, I n s → wpAny (model prog w) A (pyNext it) (fun r s₁ => match r with
      | none => R (.ok .next) s₁
      | some v => wpAny (model prog w) A (letOwnedTupleGo target it v) (fun _ s₀ => wpAny (model prog w) A (assign target env v) (fun _ s₂ =>
          wpAny (model prog w) A (forIn ifs true fun c r => if r = true then do let ok ← isTrue c env (eval c env); pure (ForInStep.yield ok) else pure (ForInStep.yield r)) (fun ok s₃ =>
            if ok = true then wpAny (model prog w) A (eval elt env) (fun x s₄ =>
              wpAny (model prog w) A (call (.builtin "list.append") [acc, x]) (fun _ s₅ => ∃ m, m < n ∧ I m s₅) (notedBy (model prog w) A env fun e s' => R (.error e) s') s₄) (notedBy (model prog w) A env fun e s' => R (.error e) s') s₃
            else ∃ m, m < n ∧ I m s₃) (notedBy (model prog w) A env fun e s' => R (.error e) s') s₂) (notedBy (model prog w) A env fun e s' => R (.error e) s') s₀) (notedBy (model prog w) A env fun e s' => R (.error e) s') s₁) (notedBy (model prog w) A env fun e s' => R (.error e) s') s)
    (n : Nat) (h : I n s) : codeAny (model prog w) A (.compLoop (.ListComp elt [⟨target, iter, ifs, 0⟩] scope pos) 0 it acc env) R s := by
  refine codeAny_loop rfl I (fun n s hI => ?_) n h
  show wpAny _ A ((compTurn (.ListComp elt [⟨target, iter, ifs, 0⟩] scope pos) 0 it acc env).onRaise (fun x => do noteFrame x env; theTreesLotGoes x)) _ _ s
  refine wpAny_noted ?_
  rw [compTurn_list]
  refine wpAny_bind (wpAny_standAt (wpAny_bind (wpAny_mono (turn n s hI) (fun r s₁ h₁ => ?_) fun _ _ h' => h')))
  cases r with
  | none => exact wpAny_pure h₁
  | some v =>
    refine wpAny_bind (wpAny_mono h₁ (fun _ s₀ h₀' => ?_) fun _ _ h' => h')
    refine wpAny_bind (wpAny_mono h₀' (fun _ s₂ h₂ => wpAny_bind (wpAny_mono h₂ (fun ok s₃ h₃ => ?_) fun _ _ h' => h')) fun _ _ h' => h')
    cases ok with
    | true =>
      simp only [if_true] at h₃ ⊢
      exact wpAny_bind (wpAny_bind (wpAny_mono h₃ (fun x s₄ h₄ => wpAny_bind (wpAny_mono h₄ (fun _ s₅ h₅ => wpAny_pure (wpAny_pure ⟨rfl, h₅⟩)) fun _ _ h' => h')) fun _ _ h' => h'))
    | false =>
      simp only [Bool.false_eq_true, if_false] at h₃ ⊢
      exact wpAny_pure ⟨rfl, h₃⟩

noncomputable def CcJ (s₂ : Shared) (H h₀ : Heap) (L C D : Addr) (m : Str → Option Value) (St : Nat → Heap → Prop) (n : Nat) (d : Nat → Option Int) (k : Nat) (s' : Shared) : Prop :=
  ∀ G : Prop, (∀ h' tk i ys m', s' = { s₂ with heap := h', toks := tk } → i ≤ n → k = n + 1 - i → St i h' → Fr h₀ L h' m → h'.Ns C m' → (∀ b o, b ≠ L → H.get? b = some o → h'.get? b = some o) →
    h'.get? D = some (listOf (ys : List Value).toArray ys.length) → ys.length ≤ i → IntsAre ys ((List.range i).filterMap d) → G) → G
theorem comp_core {elt target iter : Expr} {ifs : List Expr} {scope : Scope} {cl : List (Str × Addr)} {pos : Pos} {n : Nat} {d : Nat → Option Int} {Has : Nat → (Str → Option Value) → Prop} {RR : Value → Addr → Result → Shared → Prop} {s₂ : Shared}
    (hcell : ∀ y ∈ scope.names, y.2 ≠ .cell) (hkind : scope.kind = .function) (hn : n ≤ sizeLine)
    {H : Heap} {I : Addr} {fp wr : List Addr} {Pp Md : Nat → Value → Heap → Prop} {St : Nat → Heap → Prop}
    (W : KTurns prog w A target I fp wr n Pp Md St) (hself : ∀ i (s' : Shared) (Q' : Value → Shared → Prop) (E' : Value → Shared → Prop), St i s'.heap → Q' (.ref I) s' → wpAny (model prog w) A (pyIter (.ref I)) Q' E' s')
    (hfp : ∀ b ∈ fp, b < s₂.heap.objs.size ∧ b ≠ L) (hwr : ∀ b ∈ wr, h₀.get? b = none) (hst : St 0 s₂.heap) (F : Fr h₀ L s₂.heap m) (hHwr : ∀ b o, H.get? b = some o → b ∉ wr) (hHk : ∀ b o, b ≠ L → H.get? b = some o → s₂.heap.get? b = some o) (hHs : H.objs.size ≤ s₂.heap.objs.size)
    (hasg : ∀ i v C (s' : Shared) m' (Q' : Unit → Shared → Prop) (E' : Value → Shared → Prop), i < n → Pp i v s'.heap → s'.heap.Ns C m' →
        (∀ h'' tk'' m'', h''.Ns C m'' → Has i m'' → (∀ b o, b ≠ C → s'.heap.get? b = some o → h''.get? b = some o) → Q' () { s' with heap := h'', toks := tk'' }) → wpAny (model prog w) A (assign target (compEnvC scope cl C env) v) Q' E' s')
    (htst : ∀ i C (s' : Shared) m' (E' : Value → Shared → Prop), i < n → Has i m' → s'.heap.Ns C m' → Fr h₀ L s'.heap m → (∀ b o, b ≠ L → H.get? b = some o → s'.heap.get? b = some o) →
        wpAny (model prog w) A (forIn ifs true fun c r => if r = true then do let ok ← isTrue c (compEnvC scope cl C env) (eval c (compEnvC scope cl C env)); pure (ForInStep.yield ok) else pure (ForInStep.yield r))
          (fun ok s₃ => ok = (d i).isSome ∧ Keeps s' s₃) E' s')
    (helt : ∀ i C x (s' : Shared) m' (E' : Value → Shared → Prop), i < n → d i = some x → Has i m' → s'.heap.Ns C m' → Fr h₀ L s'.heap m → (∀ b o, b ≠ L → H.get? b = some o → s'.heap.get? b = some o) →
        wpAny (model prog w) A (eval elt (compEnvC scope cl C env)) (fun y s₃ => (∃ t, y = .int x t) ∧ KeepsL L s' s₃ ∧ Fr h₀ L s₃.heap m) E' s')
    (hRR : ∀ D C (ys : List Value) h' tk m', H.objs.size ≤ D → (∀ b o, b ≠ L → H.get? b = some o → h'.get? b = some o) → Fr h₀ L h' m → h'.get? D = some (listOf ys.toArray ys.length) → IntsAre ys ((List.range n).filterMap d) → h'.Ns C m' →
      C ≠ L → D ≠ L → D ≠ C → h₀.get? C = none → h₀.get? D = none → (∀ b o, H.get? b = some o → b ≠ C) → RR (.ref D) C (.ok .next) { s₂ with heap := h', toks := tk }) :
    wpAny (model prog w) A (newList []) (fun acc s₃ => wpAny (model prog w) A (newFunctionEnv scope env.globals cl [] env.qual none .none (some env)) (fun cenv s₄ =>
      codeAny (model prog w) A (.compStart (.ListComp elt [⟨target, iter, ifs, 0⟩] scope pos) 0 (.ref I) acc { cenv with scope := relabel scope env }) (RR acc cenv.locals) s₄) E s₃) E s₂ := by
  refine wpAny_newObj_type (wpAny_newFunctionEnv hcell (by intro y hy; simp at hy) (fun h₁ hns₁ hsb₁ => ?_) hkind)
  dsimp only at hns₁ hsb₁ ⊢
  generalize hH2 : s₂.heap.push { cls := .type "list", dict := none, data := .seq ([] : List Value).toArray } = H2 at hns₁ hsb₁ ⊢
  have hC : H2.objs.size = s₂.heap.objs.size + 1 := by rw [← hH2, Heap.size_push]
  generalize hDe : s₂.heap.objs.size = D at *
  generalize hCe : H2.objs.size = C at *
  have hDC : D ≠ C := by omega
  have old : ∀ b o, s₂.heap.get? b = some o → h₁.get? b = some o := fun b o e => by
    have hb := ltN (Heap.lt_size e)
    exact hsb₁.extBut b o (neN (by omega)) (Heap.get?_push_of_some _ (hH2 ▸ Heap.get?_push_of_some _ e))
  have hacc : h₁.get? D = some (listOf ([] : List Value).toArray 0) := hsb₁.extBut _ _ hDC (Heap.get?_push_of_some _ (by rw [← hH2, ← hDe]; exact Heap.get?_push_size _ rfl))
  have fresh : ∀ a, D ≤ a → s₂.heap.get? a = none := fun a ha => by
    cases e : s₂.heap.get? a with
    | none => rfl
    | some o' => have h1 := ltN (Heap.lt_size e); have h2 := leN ha; omega
  have fresh₀ : ∀ a, D ≤ a → h₀.get? a = none := fun a ha => by
    cases e : h₀.get? a with
    | none => rfl
    | some o' => have := F.keep a o' e; rw [fresh a ha] at this; cases this
  have hLlt : @LT.lt Nat _ L D := hDe ▸ F.ns.lt
  replace hHs : @LE.le Nat _ H.objs.size D := hHs
  have hX : ∀ b, (b ∈ wr ∨ b = C ∨ b = D) → h₀.get? b = none ∧ b ≠ L := fun b q => by
    rcases q with q | rfl | rfl
    · exact ⟨hwr b q, (hfp b (W.sub b q)).2⟩
    · exact ⟨fresh₀ _ (leN (by omega)), neN (by omega)⟩
    · exact ⟨fresh₀ _ (Nat.le_refl _), neN (by with_reducible exact Nat.ne_of_gt (by assumption))⟩
  have hXH : ∀ b o, H.get? b = some o → ¬ (b ∈ wr ∨ b = C ∨ b = D) := fun b o e q => by
    rcases q with q | q | q
    · exact hHwr b o e q
    · have h1 := ltN (Heap.lt_size e); have q2 : @Eq Nat b C := q; omega
    · have h1 := ltN (Heap.lt_size e); have q2 : @Eq Nat b D := q; omega
  have hfpC : ∀ b ∈ fp, b ≠ C ∧ b ≠ D ∧ b ≠ L := fun b hb => by have h1 := ltN (hfp b hb).1; exact ⟨neN (by omega), neN (by with_reducible exact Nat.ne_of_lt (by assumption)), (hfp b hb).2⟩
  have hwrC : C ∉ wr := fun q => (hfpC C (W.sub C q)).1 rfl
  have hwrD : D ∉ wr := fun q => (hfpC D (W.sub D q)).2.1 rfl
  have loop : ∀ s₃ : Shared, s₃ = { s₂ with heap := h₁, toks := s₂.toks + ([] : List (Str × Value)).length } →
      codeAny (model prog w) A (.compLoop (.ListComp elt [⟨target, iter, ifs, 0⟩] scope pos) 0 (.ref I) (.ref D) (compEnvC scope cl C env)) (RR (.ref D) C) s₃ := by
    rintro s₃ rfl
    refine compLoop_gen (CcJ s₂ H h₀ L C D m St n d) ?_ (n + 1) (fun _ KK => KK h₁ _ 0 ([]) _ rfl (Nat.zero_le _) rfl (W.frame _ _ _ hst fun b _ o e => old b o e) (frMove (X := fun _ => False) F (fun b o _ e => old b o e) (fun _ q => q.elim)) hns₁ (fun b o hb e => old b o (hHk b o hb e)) hacc (Nat.le_refl _) .nil)
    intro k s' hJ
    refine hJ _ fun h' tk i ys m' e1 hi e2 hst' F' hn' hold hD' hyl hys => ?_
    subst e1 e2
    by_cases hlt : i < n
    · refine W.item i _ _ _ hlt hst' fun v h₂ tk₂ hMd hk₂ => ?_
      refine W.go i v _ _ _ hMd fun h₃ hP hst₃ hk₃ => ?_
      have k3 : ∀ b o, ¬ (b ∈ wr ∨ b = C ∨ b = D) → h'.get? b = some o → h₃.get? b = some o := fun b o hb e => hk₃ b o (fun q => hb (.inl q)) (hk₂ b o (fun q => hb (.inl q)) e)
      have F₃ := frMove F' k3 hX
      have hn₃ : h₃.Ns C m' := hn'.at' fun o e => hk₃ C o hwrC (hk₂ C o hwrC e)
      have hD₃ := hk₃ D _ hwrD (hk₂ D _ hwrD hD')
      have old₃ : ∀ b o, b ≠ L → H.get? b = some o → h₃.get? b = some o := fun b o hb e => k3 b o (hXH b o e) (hold b o hb e)
      refine hasg i v C { s₂ with heap := h₃, toks := tk₂ } m' _ _ hlt hP hn₃ fun h₄ tk₄ m₄ hn₄ hHas hk₄ => ?_
      have F₄ : Fr h₀ L h₄ m := frMove (X := fun b => b = C) F₃ (fun b o hb e => hk₄ b o hb e) (fun b q => hX b (.inr (.inl q)))
      have hD₄ := hk₄ D _ hDC hD₃
      have old₄ : ∀ b o, b ≠ L → H.get? b = some o → h₄.get? b = some o := fun b o hb e => hk₄ b o (fun q => hXH b o e (.inr (.inl q))) (old₃ b o hb e)
      have hst₄ : St (i + 1) h₄ := W.frame _ _ _ hst₃ fun b hb o e => hk₄ b o (hfpC b hb).1 e
      refine wpAny_mono (htst i C { s₂ with heap := h₄, toks := tk₄ } m₄ _ hlt hHas hn₄ F₄ old₄) (fun ok s₅ h₅ => ?_) fun _ _ e => e
      obtain ⟨rfl, h₅, tk₅, rfl, hk₅⟩ := h₅
      have F₅ : Fr h₀ L h₅ m := frMove (X := fun _ => False) F₄ (fun b o _ e => hk₅ b o e) (fun _ q => q.elim)
      have hn₅ : h₅.Ns C m₄ := hn₄.at' fun o e => hk₅ C o e
      have hD₅ := hk₅ D _ hD₄
      have old₅ : ∀ b o, b ≠ L → H.get? b = some o → h₅.get? b = some o := fun b o hb e => hk₅ b o (old₄ b o hb e)
      have hst₅ : St (i + 1) h₅ := W.frame _ _ _ hst₄ fun b hb o e => hk₅ b o e
      cases hd : d i with
      | none =>
        simp only [Option.isSome_none, Bool.false_eq_true, if_false]
        refine ⟨n + 1 - (i + 1), sdec hlt, fun _ KK => KK h₅ tk₅ (i + 1) ys m₄ rfl hlt rfl hst₅ F₅ hn₅ old₅ hD₅ (by omega) ?_⟩
        rw [List.range_succ, List.filterMap_append]
        simpa [hd] using hys
      | some x =>
        simp only [Option.isSome_some, if_true]
        refine wpAny_mono (helt i C x { s₂ with heap := h₅, toks := tk₅ } m₄ _ hlt hd hHas hn₅ F₅ old₅) (fun y s₆ h₆ => ?_) fun _ _ e => e
        obtain ⟨⟨t, rfl⟩, ⟨h₆, tk₆, rfl, hk₆⟩, F₆⟩ := h₆
        have hCL : C ≠ L := (hX C (.inr (.inl rfl))).2
        have hDL : D ≠ L := (hX D (.inr (.inr rfl))).2
        have hn₆ : h₆.Ns C m₄ := hn₅.at' fun o e => hk₆ C o hCL e
        have hD₆ := hk₆ D _ hDL hD₅
        have old₆ : ∀ b o, b ≠ L → H.get? b = some o → h₆.get? b = some o := fun b o hb e => hk₆ b o hb (old₅ b o hb e)
        have hst₆ : St (i + 1) h₆ := W.frame _ _ _ hst₅ fun b hb o e => hk₆ b o (hfpC b hb).2.2 e
        refine append_at (hsz := by show ys.toArray.size ≤ sizeLine; rw [List.size_toArray]; omega) hD₆ fun h₇ hs₇ hD₇ => ?_
        refine ⟨n + 1 - (i + 1), sdec hlt, fun _ KK => KK h₇ tk₆ (i + 1) (ys ++ [.int x t]) m₄ rfl hlt rfl (W.frame _ _ _ hst₆ fun b hb o e => hs₇.extBut b o (hfpC b hb).2.1 e) (F₆.change hs₇ hDL (hX D (.inr (.inr rfl))).1) (hn₆.sameBut hs₇ (Ne.symm hDC)) (fun b o hb e => hs₇.extBut b o (fun q => hXH b o e (.inr (.inr q))) (old₆ b o hb e)) ?_ (by simp; with_reducible assumption) ?_⟩
        · rw [hD₇]; simp
        · rw [List.range_succ, List.filterMap_append]
          simp only [List.filterMap_cons, hd, List.filterMap_nil]
          exact hys.append (.cons x t .nil)
    · obtain rfl : i = n := Nat.le_antisymm hi (Nat.not_lt.mp hlt)
      refine W.done _ _ _ hst' fun h₂ tk₂ hk₂ => ?_
      have k2 : ∀ b o, ¬ (b ∈ wr ∨ b = C ∨ b = D) → h'.get? b = some o → h₂.get? b = some o := fun b o hb e => hk₂ b o (fun q => hb (.inl q)) e
      have F₂ := frMove F' k2 hX
      have hn₂ : h₂.Ns C m' := hn'.at' fun o e => hk₂ C o hwrC e
      have hD₂ := hk₂ D _ hwrD hD'
      exact hRR D C ys h₂ tk₂ m' hHs (fun b o hb e => k2 b o (hXH b o e) (hold b o hb e)) F₂ hD₂ hys hn₂ (hX C (.inr (.inl rfl))).2 (hX D (.inr (.inr rfl))).2 hDC (hX C (.inr (.inl rfl))).1 (hX D (.inr (.inr rfl))).1 (fun b o e q => hXH b o e (.inr (.inl q)))
  refine codeAny_compStart_list (loop _ rfl) (hself 0 _ _ _ (W.frame _ _ _ hst fun b _ o e => old b o e) (loop _ rfl))

noncomputable def CompIn (prog : Program) (w : World) (A : Around) (h₀ : Heap) (L : Addr) (m : Str → Option Value) (env : Env) (elt target : Expr) (ifs : List Expr) (scope : Scope) (cl : List (Str × Addr)) (n : Nat) (d : Nat → Option Int) (it : Value) (s₂ : Shared) (M : Addr → Str → Option Value) (R : Addr → Shared → Prop) : Prop :=
  ∀ G : Prop, (∀ (H : Heap) (I : Addr) (fp wr : List Addr) (Pp Md : Nat → Value → Heap → Prop) (St : Nat → Heap → Prop) (Has : Nat → (Str → Option Value) → Prop),
      it = .ref I →
      KTurns prog w A target I fp wr n Pp Md St →
      (∀ i (s' : Shared) (Q' : Value → Shared → Prop) (E' : Value → Shared → Prop), St i s'.heap → Q' (.ref I) s' → wpAny (model prog w) A (pyIter (.ref I)) Q' E' s') →
      (∀ b ∈ fp, b < s₂.heap.objs.size ∧ b ≠ L) →
      (∀ b ∈ wr, h₀.get? b = none) →
      St 0 s₂.heap →
      Fr h₀ L s₂.heap m →
      (∀ b o, H.get? b = some o → b ∉ wr) →
      (∀ b o, b ≠ L → H.get? b = some o → s₂.heap.get? b = some o) →
      H.objs.size ≤ s₂.heap.objs.size →
      (∀ i v C (s' : Shared) m' (Q' : Unit → Shared → Prop) (E' : Value → Shared → Prop), i < n → Pp i v s'.heap → s'.heap.Ns C m' →
        (∀ h'' tk'' m'', h''.Ns C m'' → Has i m'' → (∀ b o, b ≠ C → s'.heap.get? b = some o → h''.get? b = some o) → Q' () { s' with heap := h'', toks := tk'' }) → wpAny (model prog w) A (assign target (compEnvC scope cl C env) v) Q' E' s') →
      (∀ i C (s' : Shared) m' (E' : Value → Shared → Prop), i < n → Has i m' → s'.heap.Ns C m' → Fr h₀ L s'.heap m → (∀ b o, b ≠ L → H.get? b = some o → s'.heap.get? b = some o) →
        wpAny (model prog w) A (forIn ifs true fun c r => if r = true then do let ok ← isTrue c (compEnvC scope cl C env) (eval c (compEnvC scope cl C env)); pure (ForInStep.yield ok) else pure (ForInStep.yield r))
          (fun ok s₃ => ok = (d i).isSome ∧ Keeps s' s₃) E' s') →
      (∀ i C x (s' : Shared) m' (E' : Value → Shared → Prop), i < n → d i = some x → Has i m' → s'.heap.Ns C m' → Fr h₀ L s'.heap m → (∀ b o, b ≠ L → H.get? b = some o → s'.heap.get? b = some o) →
        wpAny (model prog w) A (eval elt (compEnvC scope cl C env)) (fun y s₃ => (∃ t, y = .int x t) ∧ KeepsL L s' s₃ ∧ Fr h₀ L s₃.heap m) E' s') →
      (∀ D (ys : List Value) h' tk, H.objs.size ≤ D → (∀ b o, b ≠ L → H.get? b = some o → h'.get? b = some o) → Fr h₀ L h' (M D) → h'.get? D = some (listOf ys.toArray ys.length) → IntsAre ys ((List.range n).filterMap d) → R D { s₂ with heap := h', toks := tk }) → G) → G
theorem comp_K {elt target iter : Expr} {ifs : List Expr} {scope : Scope} {cl : List (Str × Addr)} {pos : Pos} {n : Nat} {d : Nat → Option Int} {Q : Value → Shared → Prop}
    (hclos : closureFor scope env = pure cl) (hcell : ∀ y ∈ scope.names, y.2 ≠ .cell) (hkind : scope.kind = .function)
    (hnames : ∀ y ∈ scope.names, y.2 = .local → scope.names.lookup y.1 = some .local) (hs : ∀ x, foldedSetIterable iter env x = pure x) (hn : n ≤ sizeLine)
    (h : wpAny (model prog w) A (eval iter env) (fun xv s₁ => wpAny (model prog w) A (pyIter xv) (fun it s₂ => CompIn prog w A h₀ L m env elt target ifs scope cl n d it s₂ (fun _ => m) (fun D => Q (.ref D))) E s₁) E s) :
    wpAny (model prog w) A (eval (.ListComp elt [⟨target, iter, ifs, 0⟩] scope pos) env) Q E s := by
  rw [eval_ListComp]
  refine wpAny_comprehension_free (use := none) rfl hs hclos hkind hnames (wpAny_mono h (fun xv s₁ h₁ => wpAny_mono h₁ (fun it s₂ h₂ => ?_) fun _ _ e => e) fun _ _ e => e)
  refine h₂ _ fun H I fp wr Pp Md St Has eI W hself hfp hwr hst F hHwr hHk hHs hasg htst helt hQ => ?_
  subst eI
  refine comp_core hcell hkind hn W hself hfp hwr hst F hHwr hHk hHs hasg htst helt fun D C ys h' tk m' hD hold F' hg hys hns hCL hDL hDC hC0 hD0 hHC => ?_
  exact ⟨m', hns, fun h'' hs'' => hQ D ys h'' tk hD (fun b o hb e => hs''.extBut b o (hHC b o e) (hold b o hb e)) (F'.change hs'' hCL hC0) (hs''.extBut _ _ hDC hg) hys⟩

theorem comp_KA {elt target iter : Expr} {ifs : List Expr} {scope : Scope} {cl : List (Str × Addr)} {pos : Pos} {n : Nat} {d : Nat → Option Int} {Q : Flow → Shared → Prop} {y : Str} {py spos : Pos}
    (hLe : env.locals = L) (hsw : swapsWith (.ListComp elt [⟨target, iter, ifs, 0⟩] scope pos) (some (.Name y py)) spos.line env = pure true) (hy : env.kindOf y = some .local) (hp : (env.scope.kind == .class || (env.scope.kind == .module && env.locals != env.globals)) = false)
    (hclos : closureFor scope env = pure cl) (hcell : ∀ y ∈ scope.names, y.2 ≠ .cell) (hkind : scope.kind = .function)
    (hnames : ∀ y ∈ scope.names, y.2 = .local → scope.names.lookup y.1 = some .local) (hs : ∀ x, foldedSetIterable iter env x = pure x) (hn : n ≤ sizeLine)
    (h : wpAny (model prog w) A (eval iter env) (fun xv s₁ => wpAny (model prog w) A (pyIter xv) (fun it s₂ => CompIn prog w A h₀ L m env elt target ifs scope cl n d it s₂ (fun D z => if z = y then some (.ref D) else m z) (fun _ => Q .next)) E s₁) E s) :
    wpAny (model prog w) A (exec (.Assign [.Name y py] (.ListComp elt [⟨target, iter, ifs, 0⟩] scope pos) spos) env) Q E s := by
  subst hLe
  rw [exec_Assign_Name_used _ _ _ _ hsw]
  refine wpAny_bind (wpAny_standAt (wpAny_bind ?_))
  show wpAny _ A (do let _ ← comprehension (.ListComp elt [⟨target, iter, ifs, 0⟩] scope pos) scope env _ (newList []) false (eval iter env) (some (assign (.Name y py) env))) _ _ s
  refine wpAny_bind (wpAny_mono (wpAny_comprehension_free (use := some (assign (.Name y py) env)) (Q := fun _ s' => Q .next s') rfl hs hclos hkind hnames
    (wpAny_mono h (fun xv s₁ h₁ => wpAny_mono h₁ (fun it s₂ h₂ => ?_) fun _ _ e => e) fun _ _ e => e)) (fun _ s' hq => wpAny_pure (wpAny_pure hq)) fun _ _ e => e)
  refine h₂ _ fun H I fp wr Pp Md St Has eI W hself hfp hwr hst F hHwr hHk hHs hasg htst helt hQ => ?_
  subst eI
  refine comp_core hcell hkind hn W hself hfp hwr hst F hHwr hHk hHs hasg htst helt fun D C ys h' tk m' hD hold F' hg hys hns hCL hDL hDC hC0 hD0 hHC => ?_
  show wpAny _ A (assign (.Name y py) env (.ref D)) _ _ _
  refine wpAny_assign_Name (wpAny_storeName_local hy F'.ns (fun h₂ hn₂ hs₂ => ?_) hp)
  have hL₀ : h₀.get? env.locals = none := Heap.get?_none_of_le F'.above
  have F₂ : Fr h₀ env.locals h₂ (fun z => if z = y then some (.ref D) else m z) := ⟨hn₂, fun b o e => hs₂.extBut b o (fun q => by rw [q, hL₀] at e; cases e) (F'.keep b o e), F'.above⟩
  refine ⟨m', hns.sameBut hs₂ hCL, fun h'' hs'' => hQ D ys h'' _ hD (fun b o hb e => hs''.extBut b o (hHC b o e) (hs₂.extBut b o hb (hold b o hb e))) (F₂.change hs'' hCL hC0) (hs''.extBut _ _ hDC (hs₂.extBut _ _ hDL hg)) hys⟩
end
end Mine
end PComp

section PCm
set_option maxRecDepth 100000
open PySem PySem.W PySem.Spec PySem.Calls PyProof.Rows
namespace Mine
theorem boot_sum : bootBuiltins (Str.ofString "sum") = some (.builtin "sum") := by decide +kernel
theorem boot_zip : bootBuiltins (Str.ofString "zip") = some (.type "zip") := by decide +kernel

section
variable {c : Cx} {d : Nat} {Z : Led} {m : Str → Option Value} {fz fz' ex : Led} {fr fr' fr1 fr2 fr3 : Frame} {s : Shared} {x y z r : Str} {i : Nat}

theorem ok_sum {e' : Expr} {p pos : Pos} {ns : List Int} (ok : CxOk c d) (hb : BName c.K c.cs (Str.ofString "sum")) (hst : ∀ rest, starEach (e' :: rest) c.env = (false, eval e' c.env) :: starEach rest c.env)
    (he : VOk c Z e' fr (vi ns) fr1) : EOk c Z (.Call (.Name (Str.ofString "sum") p) [e'] [] pos) fr (.val (.int ns.sum)) fr1 := by
  intro m fz ex s Q S hz k
  refine call_shape (load_builtin ok S hb boot_sum (by decide) (by decide) (callWith_mach rfl (hst _) rfl (spliced_more (he m fz ex s _ S hz fun vv fz1 h1 t1 s1 S1 v1 => spliced_none ?_) (hst _))))
  refine Val.listE v1 fun a its n hm hv => ?_
  have hI := hv.ints (intsV_map ns)
  have hl : h1.IsList a its.toArray := ⟨_, S1.ofFz hm, rfl, n, rfl⟩
  obtain ⟨xs, hxs⟩ := hI.allInts.items
  have hl2 : h1.IsList a (intItems xs) := by rw [← hxs]; exact hl
  refine sum_intListG (s := { s with heap := h1, toks := t1 }) ok.hh hl2 fun h' tk t' hk => ?_
  have e1 : preSum (numAt xs) xs.size = ns.sum := by
    rw [preSum_eq, List.take_of_length_le (by simp), ← nums_intItems, ← hxs, ← hI.numsOf]
  rw [e1]
  exact k _ fz1 h' tk s1 (S1.keep hk) (.int _ _)

theorem ld_free {C : Addr} {cscope : Scope} {clz : List (Str × Addr)} {pos : Pos} {v : V} {Q : Value → Shared → Prop} {E : Value → Shared → Prop} (S : FSt c s.heap m fz ex fr) (hj : c.names[i]? = some z) (ej : fr[i]? = some (.val v)) (hzk : c.cs.names.lookup z = some .cell)
    (hcl : clz.lookup z = c.cl.lookup z) (hck : cscope.kind = .function) (hk : (compEnvC cscope clz C c.env).kindOf z = some .cell) (hd : (z == ("__debug__" : Str)) = false) {s' : Shared} (hold : ∀ b o, b ≠ c.L → s.heap.get? b = some o → s'.heap.get? b = some o)
    (h : ∀ vv, Val c.fa fz v vv → Q vv s') : wpAny (model c.prog c.w) c.A (eval (.Name z pos) (compEnvC cscope clz C c.env)) Q E s' := by
  obtain ⟨q, hq, vv, l, hv⟩ := S.sl i _ ej
  rw [hj] at hq; cases hq
  rcases l with ⟨l1, _⟩ | ⟨_, a, o, h2, h3, h4⟩
  · rw [hzk] at l1; cases l1
  · have hN := S.N _ (List.mem_append_left _ h3)
    exact ldCellK (hcl.trans h2) ⟨o, hold a o hN.2.1 hN.1, h4⟩ (h vv hv) hck hk hd

theorem ld_loc {C : Addr} {cscope : Scope} {clz : List (Str × Addr)} {env : Env} {pos : Pos} {v : Value} {m' : Str → Option Value} {M : Model} {A : Around} {Q : Value → Shared → Prop} {E : Value → Shared → Prop} {s' : Shared} (hn : s'.heap.Ns C m') (hv : m' x = some v) (hck : cscope.kind = .function) (hx : cscope.names.lookup x = some .local) (hd : (x == ("__debug__" : Str)) = false)
    (h : Q v s') : wpAny M A (eval (.Name x pos) (compEnvC cscope clz C env)) Q E s' := ldVarK (F := hn) hv h hck (lookup_relabel_local hx) hd

theorem filterMap_range {c : List Int} {g : Int → Nat → Int} : ∀ n, n ≤ c.length → (List.range n).filterMap (fun i => (c[i]?).map fun v => g v i) = (c.take n).mapIdx (fun i v => g v i)
  | 0, _ => by simp
  | n + 1, h => by
    rw [List.range_succ, List.filterMap_append, filterMap_range n (by with_reducible exact Nat.le_of_succ_le (by assumption))]
    have hn : n < c.length := by with_reducible exact Nat.lt_of_succ_le (by assumption)
    simp only [List.filterMap_cons, List.filterMap_nil, List.getElem?_eq_getElem hn, Option.map_some]
    rw [List.take_succ_eq_append_getElem hn, List.mapIdx_concat]
    simp [List.length_take, Nat.min_eq_left (Nat.le_of_lt hn)]

theorem ok_comp_enum {j : Nat} {cscope : Scope} {clz : List (Str × Addr)} {cs : List Int} {wi : Int} {p1 p2 p3 p4 p5 p6 p7 p8 p9 p10 p11 p12 p16 pos : Pos} {k1 kt : Nat} (ok : CxOk c d)
    (hi : c.names[i]? = some r) (okr : okName r = true) (ei : fr[i]? = some (.val (vi cs))) (hj : c.names[j]? = some z) (ej : fr[j]? = some (.val (.int wi))) (hzk : c.cs.names.lookup z = some .cell)
    (hben : BName c.K c.cs (Str.ofString "enumerate"))
    (hclos : closureFor cscope c.env = pure clz) (hclz : clz.lookup z = c.cl.lookup z) (hcell : ∀ y ∈ cscope.names, y.2 ≠ .cell) (hck : cscope.kind = .function) (hnames : ∀ y ∈ cscope.names, y.2 = .local → cscope.names.lookup y.1 = some .local)
    (hx : cscope.names.lookup x = some .local) (hy : cscope.names.lookup y = some .local) (hxy : x ≠ y) (hk : ∀ C, (compEnvC cscope clz C c.env).kindOf z = some .cell)
    (dx : (x == ("__debug__" : Str)) = false) (dy : (y == ("__debug__" : Str)) = false) (dz : (z == ("__debug__" : Str)) = false)
    (hw0 : 0 ≤ wi) (hw1 : wi ≤ 8) (hlen : cs.length ≤ 1000) (hc : ∀ v ∈ cs, v.natAbs < lim) :
    EOk c Z (.ListComp (.BinOp (.Name x p1) .Mult (.BinOp (.Constant (.int 2) k1 p2) .Pow (.BinOp (.Name z p3) .Mult (.Name y p4) p5) p6) p7) [⟨.Tuple [.Name y p8, .Name x p9] kt p10, .Call (.Name (Str.ofString "enumerate") p11) [.Name r p12] [] p16, [], 0⟩] cscope pos) fr
      (.fresh ((cs.mapIdx fun n v => v * 2 ^ (wi * (n : Int)).toNat).map .int)) fr := by
  intro m fz ex s Q S hz k
  refine comp_K (h₀ := c.h₀) (L := c.L) (m := m) (cl := clz) (n := cs.length) (d := fun n => (cs[n]?).map fun v => v * 2 ^ (wi * (n : Int)).toNat) hclos hcell hck hnames (fun _ => rfl) (by unfold sizeLine; with_reducible exact le_dn (by assumption) (by decide)) ?_
  obtain ⟨q, hq, vv, l, hv⟩ := S.sl i _ ei
  rw [hi] at hq; cases hq
  have hst : ∀ rest, starEach (.Name r p12 :: rest) c.env = (false, eval (.Name r p12) c.env) :: starEach rest c.env := fun _ => rfl
  refine call_shape (load_builtin ok S hben boot_enum (by decide) (by decide) (callWith_mach rfl (hst _) rfl (spliced_more (load_name ok S l okr (spliced_none ?_)) (hst _))))
  refine Val.listE hv fun a its nn hm hvs => ?_
  have hN := S.N _ (List.mem_append_left _ hm)
  have hL : s.heap.IsList a its.toArray := ⟨_, hN.1, rfl, nn, rfl⟩
  have hI := hvs.ints (intsV_map cs)
  have hil : its.length = cs.length := by have := hvs.length; simpa using this
  refine call_enumerate_list hL fun h2 hen hit hsz hk2 => ?_
  refine wpAny_pyIter_enum hen ?_
  replace hsz : @Eq Nat h2.objs.size (s.heap.objs.size + 2) := hsz
  have ha := ltN (Heap.lt_size hN.1)
  have hLs := ltN S.F.ns.lt
  have W := (WalksT.enumerate (prog := c.prog) (w := c.w) ok.hh (s.heap.objs.size + 1) s.heap.objs.size a (neN (by omega)) (neN (by omega)) (neN (by with_reducible exact Nat.ne_of_lt (by assumption))) its.toArray).toU
  have K := KTurns.ofWalksU (elts := [.Name y p8, .Name x p9]) (k := kt) (pos := p10) W
  have hn : its.toArray.size = cs.length := by simpa using hil
  rw [hn] at K
  have new : ∀ b, s.heap.objs.size ≤ b → c.h₀.get? b = none := fun b hb => (S.newAt hb).2.1
  refine fun G KK => KK s.heap _ _ _ _ _ _ (fun n m' => ∃ t v u, cs[n]? = some v ∧ m' y = some (.int n t) ∧ m' x = some (.int v u)) rfl K W.self ?_ ?_ ⟨⟨_, hen⟩, hit, hL.at fun o e => hk2 _ o e⟩ (frMove (X := fun _ => False) S.F (fun b o _ e => hk2 b o e) (fun _ q => q.elim)) ?_ (fun b o _ e => hk2 b o e) ?_ ?_ ?_ ?_ ?_
  · intro b hb
    simp only [List.mem_cons, List.not_mem_nil, or_false] at hb
    rcases hb with rfl | rfl | rfl
    · exact ⟨by show @LT.lt Nat _ _ h2.objs.size; omega, neN (by omega)⟩
    · exact ⟨by show @LT.lt Nat _ _ h2.objs.size; omega, neN (by with_reducible exact Nat.ne_of_gt (by assumption))⟩
    · exact ⟨by show @LT.lt Nat _ _ h2.objs.size; omega, hN.2.1⟩
  · intro b hb
    simp only [List.mem_cons, List.not_mem_nil, or_false] at hb
    rcases hb with rfl | rfl
    · exact new _ (Nat.le_succ _)
    · exact new _ (Nat.le_refl _)
  · intro b o e hb
    have h1 := ltN (Heap.lt_size e)
    simp only [List.mem_cons, List.not_mem_nil, or_false] at hb
    rcases hb with hb | hb
    · have hb : @Eq Nat b (s.heap.objs.size + 1) := hb
      omega
    · have hb : @Eq Nat b s.heap.objs.size := hb
      omega
  · show s.heap.objs.size ≤ h2.objs.size
    omega
  · rintro n v C s' m' Q' E' hlt ⟨T, vals, rfl, ⟨t, x0, hx0, rfl⟩, hT⟩ hns kk
    refine kcp_assign (env := compEnvC cscope clz C c.env) ok.hh hT (lookup_relabel_local hy) (lookup_relabel_local hx) (by simp [compEnvC, relabel, hck]) hns fun h' tk hn' hk' => ?_
    have hx1 : its[n]? = some x0 := by simpa using hx0
    obtain ⟨v0, e1, e2⟩ := hvs.at hx1
    obtain ⟨v1, hv1⟩ : ∃ v1, cs[n]? = some v1 := ⟨_, List.getElem?_eq_getElem hlt⟩
    have e1' : v0 = .int v1 := by simpa [hv1] using e1.symm
    subst e1'
    cases e2 with | int _ u =>
    exact kk h' tk _ hn' ⟨t, v1, u, hv1, by simp [Ne.symm hxy], by simp⟩ hk'
  · rintro n C s' m' E' hlt ⟨t, v, u, hv1, _, _⟩ hns F hold
    refine wpAny_tests_nil ⟨by simp [hv1], s'.heap, s'.toks, rfl, fun _ _ e => e⟩
  · rintro n C x1 s' m' E' hlt hd1 ⟨t, v, u, hv1, hmy, hmx⟩ hns F hold
    simp only [hv1, Option.map_some, Option.some.injEq] at hd1
    subst hd1
    have hvb := hc v (List.mem_of_getElem? hv1)
    have e1 : binI .mul wi (n : Int) = some (wi * n) := by simp only [binI]; rw [if_pos ⟨by unfold lim; omega, by unfold lim; omega⟩]
    have hwn0 : 0 ≤ wi * (n : Int) := Int.mul_nonneg hw0 (by with_reducible exact Int.natCast_nonneg _)
    have hwn1 : wi * (n : Int) ≤ 8 * n := Int.mul_le_mul_of_nonneg_right hw1 (by with_reducible exact Int.natCast_nonneg _)
    have e2 : binI .pow 2 (wi * n) = some (2 ^ (wi * (n : Int)).toNat) := by simp only [binI]; rw [if_pos ⟨hwn0, by omega, by decide⟩]
    refine wpAny_BinOp (ld_loc hns hmx hck hx dx (wpAny_BinOp (wpAny_Constant_int (wpAny_BinOp (ld_free S hj ej hzk hclz hck (hk C) dz (fun b o hb e => hold b o hb e) fun vv hvv => ?_)))))
    refine Val.intE hvv fun tz => ?_
    refine ld_loc hns hmy hck hy dy (binI_sound (op := .mul) e1 fun tk1 => binI_sound (op := .pow) e2 fun tk2 => mul_int ?_ (IntMulOk.of_left (bits64 hvb)))
    exact ⟨⟨_, rfl⟩, ⟨s'.heap, _, rfl, fun _ _ _ e => e⟩, F⟩
  · intro D ys h' tk hD hold F hg hys
    have h3 := filterMap_range (c := cs) (g := fun v n => v * 2 ^ (wi * (n : Int)).toNat) cs.length (Nat.le_refl _)
    rw [List.take_length] at h3
    have hys2 : IntsAre ys (cs.mapIdx fun n v => v * 2 ^ (wi * (n : Int)).toNat) := by rw [← h3]; exact hys
    have S2 : FSt c h' m fz ex fr := S.back F fun p hp => ⟨hold _ _ (S.allN p hp).2.1 (S.allN p hp).1, (S.allN p hp).2⟩
    exact k _ fz h' tk (fun _ e => e) S2 (S.newList hD hg (Vals.ofInts hys2))
end
end Mine
end PCm

section PCn
set_option maxRecDepth 100000
open PySem PySem.W PySem.Spec PySem.Calls PyProof.Rows
namespace Mine

theorem sum_val {w : Nat} : ∀ (cs : List Int) (k : Nat), (cs.mapIdx fun n v => v * 2 ^ ((w : Int) * ((n + k : Nat) : Int)).toNat).sum = 2 ^ (w * k) * val (2 ^ w) cs
  | [], k => by simp [val]
  | d :: r, k => by
    rw [List.mapIdx_cons, List.sum_cons]
    have h := sum_val (w := w) r (k + 1)
    have e : (fun i => (fun n v => v * (2 : Int) ^ ((w : Int) * ((n + k : Nat) : Int)).toNat) (i + 1)) = fun n v => v * 2 ^ ((w : Int) * ((n + (k + 1) : Nat) : Int)).toNat := by
      funext n v
      show v * (2 : Int) ^ ((w : Int) * ((n + 1 + k : Nat) : Int)).toNat = _
      rw [show n + 1 + k = n + (k + 1) from by omega]
    rw [e, h]
    have e2 : ((w : Int) * ((0 + k : Nat) : Int)).toNat = w * k := by
      rw [Nat.zero_add, ← Int.natCast_mul, Int.toNat_natCast]
    rw [e2]
    simp only [val]
    rw [show w * (k + 1) = w * k + w from Nat.mul_succ w k, Int.pow_add]
    grind

section
variable {prog : Program} {w : World} {P : Params} {p : Program} {loose : List Str} {mean : ExcName → Option Value} {mg mb : Str → Option Value} {A₀ A : Around} {s : Shared} {base h₀ g : Heap} {outer : List Env} {L : Addr} {m : Str → Option Value} {env : Env} {news : Led}

theorem number_run {x y z r : Str} {qual : Str} {scope cscope : Scope} {f : Addr} {cdv : Value} {cl clz : List (Str × Addr)} {o : Obj} {a ca : Addr} {its : List Value} {i : Nat} {cs : List Int} {n wi : Int} {t1 : Tok} {p1 p2 p3 p4 p5 p6 p7 p8 p9 p10 p11 p12 p13 p14 p15 p16 pos : Pos} {k1 kt : Nat} {E : Value → Shared → Prop} {Q : Flow → Shared → Prop}
    (B : Below A base (env :: outer) g) (F : Fr g L s.heap m) (X : (hK P).In g) (N : News g L s.heap ((ca, o) :: news)) (T : Top p loose mean mg mb g) (hA : A.frames = some (env :: outer)) (hh : A.handled = none)
    (hroom : A.depth + 10 < recursionLimit) (hun : A.units + 200 < cLine)
    (ho : o.data = .cell (some (.int wi t1))) (hm : (a, W.listOf its.toArray i) ∈ news) (hI : IntsAre its cs) (hmr : m r = some (.ref a))
    (hc : Num (2 ^ wi.toNat) n cs) (hl : cs.length ≤ 1000) (hw : 4 ≤ wi) (hw2 : wi ≤ 8)
    (hrl : scope.names.lookup r = some .local) (hzl : scope.names.lookup z = some .cell) (hzc : cl.lookup z = some ca) (okr : okName r = true) (hrz : r ≠ z) (hkind : scope.kind = .function)
    (bsum : BName (hK P) scope (Str.ofString "sum")) (ben : BName (hK P) scope (Str.ofString "enumerate"))
    (hclos : closureFor cscope (envX qual scope L f cdv cl) = pure clz) (hclz : clz.lookup z = cl.lookup z) (hcell : ∀ y ∈ cscope.names, y.2 ≠ .cell) (hck : cscope.kind = .function) (hnames : ∀ y ∈ cscope.names, y.2 = .local → cscope.names.lookup y.1 = some .local)
    (hx : cscope.names.lookup x = some .local) (hy : cscope.names.lookup y = some .local) (hxy : x ≠ y) (hk : ∀ C, (compEnvC cscope clz C (envX qual scope L f cdv cl)).kindOf z = some .cell)
    (dx : (x == ("__debug__" : Str)) = false) (dy : (y == ("__debug__" : Str)) = false) (dz : (z == ("__debug__" : Str)) = false)
    (kk : ∀ t h' tk' m', Fr g L h' m' → News g L h' ((ca, o) :: news) → Q (.ret (.int n t)) { s with heap := h', toks := tk' }) :
    wpAny (model prog w) (A.deeper (envX qual scope L f cdv cl)) (execs [.Return (some (.Call (.Name (Str.ofString "sum") p13) [.ListComp (.BinOp (.Name x p1) .Mult (.BinOp (.Constant (.int 2) k1 p2) .Pow (.BinOp (.Name z p3) .Mult (.Name y p4) p5) p6) p7) [⟨.Tuple [.Name y p8, .Name x p9] kt p10, .Call (.Name (Str.ofString "enumerate") p11) [.Name r p12] [] p16, [], 0⟩] cscope pos] [] p14)) p15] (envX qual scope L f cdv cl)) Q E s := by
  let c : Cx := Cx.mk prog w (hK P) p loose mean mg mb (fa 0) qual scope L f cdv cl [r, z] (A.deeper (envX qual scope L f cdv cl)) A base g (env :: outer)
  have ok : CxOk c 5 := ⟨B, X, T, hh, (by show A.frames.map _ = _; rw [hA]; rfl), (by show A.depth + 1 + 5 < _; omega), (by show A.units + 3 + 8 * 5 + 100 < _; omega), hkind, (by simp [c, hrz])⟩
  have hB : (0 : Int) < 2 ^ wi.toNat := pow_pos' (by with_reducible decide) _
  have hb8 : (2 : Int) ^ wi.toNat ≤ 256 := by have := pow_mono (show (0 : Int) < 2 by with_reducible decide) (show wi.toNat ≤ 8 by omega); omega
  have hdig : ∀ v ∈ cs, v.natAbs < lim := fun v hv => by
    have := hc.dig v hv
    unfold lim; omega
  have S : FSt c s.heap m ((ca, o) :: news) [] [.val (vi cs), .val (.int wi)] := by
    refine ⟨F, by simpa using N, fun _ _ _ h => by simp at h, fun j sl e => ?_, fun j k s t x y a b hij e1 e2 h1 h2 => ?_⟩
    · match j, e with
      | 0, e => cases e; exact ⟨r, rfl, _, .inl ⟨hrl, hmr⟩, .list (.tail _ hm) (Vals.ofInts hI)⟩
      | 1, e => cases e; exact ⟨z, rfl, .int wi t1, .inr ⟨.inr hzl, ca, o, hzc, .head _, ho⟩, .int wi t1⟩
      | j + 2, e => simp at e
    · exfalso
      match j, e1 with
      | 0, e1 => cases e1; cases h1
      | 1, e1 => cases e1; cases h1
      | j + 2, e1 => simp at e1
  have hwn : wi = (wi.toNat : Int) := by omega
  have hsum : (cs.mapIdx fun n v => v * 2 ^ (wi * (n : Int)).toNat).sum = n := by
    have h1 := sum_val (w := wi.toNat) cs 0
    simp only [Nat.add_zero, Nat.mul_zero, Int.pow_zero, Int.one_mul] at h1
    rw [← hwn] at h1
    rw [h1]
    exact hc.val
  have he := ok_comp_enum (c := c) (d := 5) (Z := []) (fr := [.val (vi cs), .val (.int wi)]) (x := x) (y := y) (z := z) (r := r) (i := 0) (j := 1) (p1 := p1) (p2 := p2) (p3 := p3) (p4 := p4) (p5 := p5) (p6 := p6) (p7 := p7) (p8 := p8) (p9 := p9) (p10 := p10) (p11 := p11) (p12 := p12) (p16 := p16) (pos := pos) (k1 := k1) (kt := kt) ok rfl okr rfl rfl rfl hzl ben hclos hclz hcell hck hnames hx hy hxy hk dx dy dz (by with_reducible exact zle_tr (by assumption) (by decide)) hw2 hl hdig
  have hs := ok_sum (c := c) (d := 5) (Z := []) (p := p13) (pos := p14) (ns := cs.mapIdx fun n v => v * 2 ^ (wi * (n : Int)).toNat) ok bsum (fun _ => rfl) he.v
  rw [hsum] at hs
  have hS : SOk c [] (execs [.Return (some _) p15] c.env) _ (.ret (.int n)) _ := sok_stop (sok_ret hs.v (fun i vs e => ⟨vs, e⟩)) (by intro q; cases q)
  refine wpAny_mono (hS m ((ca, o) :: news) [] s Q S (fun _ h => by simp at h) fun flv m' fz' h' tk' hs' S' io f' => ?_) (fun _ _ q => q) (fun _ _ q => False.elim q)
  cases flv <;> simp only [FlV] at f'
  cases f'
  exact kk _ h' tk' m' S'.F fun q hq => S'.N q (List.mem_append_left _ (hs' q hq))

theorem c_number {n wi : Int} {a : Addr} {its : List Value} {i : Nat} {cs : List Int} {t1 : Tok} {E Q : Value → Shared → Prop}
    (B : Below A₀ base outer h₀) (F : Fr h₀ L s.heap m) (X₀ : (hK P).In h₀) (N : News h₀ L s.heap news) (T : Top p loose mean mg mb h₀) (hA : A.frames = some (env :: outer)) (hf : env.frame = some L) (hke : env.scope.kind = .function) (hh : A.handled = none)
    (hroom : A.depth + 40 < recursionLimit) (hun : A.units + 420 < cLine)
    (hm : (a, W.listOf its.toArray i) ∈ news) (hI : IntsAre its cs) (hc : Num (2 ^ wi.toNat) n cs) (hl : cs.length ≤ 1000) (hw : 4 ≤ wi) (hw2 : wi ≤ 8)
    (kk : ∀ t h' tk', Fr h₀ L h' m → News h₀ L h' news → Q (.int n t) { s with heap := h', toks := tk' }) :
    wpAny (model prog w) A (call (.ref 336) [.ref a, .int wi t1]) Q E s := by
  refine wpAny_call ?_
  refine' code_defC B F X₀ N T hA hf hke ?ho ?hcd (by with_reducible exact Nat.lt_of_le_of_lt (Nat.le_add_right _ _) (by assumption)) ?hb ?hkind ?hnd ?go ?hco ?hgen ?hk
  case ho => k_is
  case hcd => k_is
  case hb => exact BindsTo.of_eq rfl
  case hkind => rfl
  case hnd => decide
  case hco => rfl
  case hgen => rfl
  case hk => rfl
  intro g L' h₁ tk cells FG F' N' CA B' X' T' hlt
  obtain ⟨o, rfl, ho⟩ := CellsAre.one CA
  refine number_run (A := A) (env := env) (outer := outer) (base := base) B' F' X' N' T' hA hh (by omega) (by omega) ho hm hI rfl hc hl hw hw2 rfl rfl rfl rfl (by decide) rfl ⟨by k_is, rfl⟩ ⟨by k_is, rfl⟩ rfl rfl (by decide) rfl (by decide) rfl rfl (by decide) (fun _ => rfl) rfl rfl rfl ?_
  intro t h' tk' m' F3 N3
  exact leaveK_ F3 N3 fun F4 N4 => kk t h' tk' F4 fun q hq => N4 q (.tail _ hq)
end
end Mine
end PCn

section PCz
set_option maxRecDepth 100000
open PySem PySem.W PySem.Spec PySem.Calls PyProof.Rows
namespace Mine
theorem filterMap_get (l : List Int) : (List.range l.length).filterMap (fun i => l[i]?) = l := by
  have h := filterMap_range (c := l) (g := fun v _ => v) l.length (Nat.le_refl _)
  rw [List.take_length] at h
  have e1 : (fun (i : Nat) => (l[i]?).map fun v => v) = fun (i : Nat) => l[i]? := by funext i; simp
  rw [e1] at h
  rw [h]
  exact List.ext_getElem? fun i => by simp [List.getElem?_mapIdx]

section
variable {c : Cx} {d : Nat} {Z : Led} {m : Str → Option Value} {fz fz' ex : Led} {fr fr' fr1 fr2 fr3 : Frame} {s : Shared} {x y z r : Str} {i : Nat}

theorem ok_comp_zip {a1 a2 : Expr} {cscope : Scope} {clz : List (Str × Addr)} {as bs : List Int} {p1 p2 p3 p4 p5 p6 p7 p8 pos : Pos} {kt : Nat} (ok : CxOk c d)
    (h1 : VOk c Z a1 fr (vi as) fr1) (h2 : VOk c Z a2 fr1 (vi bs) fr2) (hst1 : ∀ rest, starEach (a1 :: rest) c.env = (false, eval a1 c.env) :: starEach rest c.env) (hst2 : ∀ rest, starEach (a2 :: rest) c.env = (false, eval a2 c.env) :: starEach rest c.env)
    (hbz : BName c.K c.cs (Str.ofString "zip"))
    (hclos : closureFor cscope c.env = pure clz) (hcell : ∀ y ∈ cscope.names, y.2 ≠ .cell) (hck : cscope.kind = .function) (hnames : ∀ y ∈ cscope.names, y.2 = .local → cscope.names.lookup y.1 = some .local)
    (hx : cscope.names.lookup x = some .local) (hy : cscope.names.lookup y = some .local) (hxy : x ≠ y) (dx : (x == ("__debug__" : Str)) = false) (dy : (y == ("__debug__" : Str)) = false)
    (hlen : as.length ≤ 1000) :
    EOk c Z (.ListComp (.BinOp (.Name x p1) .Add (.Name y p2) p3) [⟨.Tuple [.Name x p4, .Name y p5] kt p6, .Call (.Name (Str.ofString "zip") p7) [a1, a2] [] p8, [], 0⟩] cscope pos) fr
      (.fresh ((List.zipWith (· + ·) as bs).map .int)) fr2 := by
  intro m fz ex s Q S hz k
  refine comp_K (h₀ := c.h₀) (L := c.L) (m := m) (cl := clz) (n := min as.length bs.length) (d := fun n => (List.zipWith (· + ·) as bs)[n]?) hclos hcell hck hnames (fun _ => rfl) (by unfold sizeLine; omega) ?_
  refine call_shape (load_builtin ok S hbz boot_zip (by decide) (by decide) (callWith_mach rfl (hst1 _) (by rw [hst2]; rfl) (spliced_more (h1 m fz ex s _ S hz fun av fz1 h1' t1 s1 S1 v1 => spliced_more (h2 m fz1 ex _ _ S1 (fun q hq => s1 _ (hz q hq)) fun bv fz2 h2' t2 s2 S2 v2 => spliced_none ?_) (hst2 _)) (hst1 _))))
  have v1' := v1.mono s2
  refine Val.listE v1' fun a its nn hm hvs => ?_
  refine Val.listE v2 fun b jts nb hmb hws => ?_
  have hN := S2.N _ (List.mem_append_left _ hm)
  have hNb := S2.N _ (List.mem_append_left _ hmb)
  have hL : h2'.IsList a its.toArray := ⟨_, hN.1, rfl, nn, rfl⟩
  have hLb : h2'.IsList b jts.toArray := ⟨_, hNb.1, rfl, nb, rfl⟩
  have hil : its.length = as.length := by have := hvs.length; simpa using this
  have hjl : jts.length = bs.length := by have := hws.length; simpa using this
  refine call_zip_2 (s := { s with heap := h2', toks := t2 }) hL hLb fun h3 hzip hp1 hp2 hi1 hi2 hsz hk3 => ?_
  refine wpAny_pyIter_zip hzip ?_
  replace hsz : @Eq Nat h3.objs.size (h2'.objs.size + 5) := hsz
  replace hk3 : ∀ b o, h2'.get? b = some o → h3.get? b = some o := hk3
  have ha := ltN (Heap.lt_size hN.1)
  have hb := ltN (Heap.lt_size hNb.1)
  have hLs := ltN S2.F.ns.lt
  have D : ZipApart (h2'.objs.size + 4) (h2'.objs.size + 2) (h2'.objs.size + 3) h2'.objs.size (h2'.objs.size + 1) a b := by
    constructor <;> refine neN ?_ <;> omega
  have W := (WalksT.zip2 (prog := c.prog) (w := c.w) ok.hh _ _ _ _ _ _ _ D its.toArray jts.toArray).toU
  have K := KTurns.ofWalksU (elts := [.Name x p4, .Name y p5]) (k := kt) (pos := p6) W
  have hn : min its.toArray.size jts.toArray.size = min as.length bs.length := by simp [hil, hjl]
  rw [hn] at K
  have new : ∀ b, h2'.objs.size ≤ b → c.h₀.get? b = none := fun b hb => (S2.newAt hb).2.1
  refine fun G KK => KK h2' _ _ _ _ _ _ (fun n m' => ∃ u v t1 t2, as[n]? = some u ∧ bs[n]? = some v ∧ m' x = some (.int u t1) ∧ m' y = some (.int v t2)) rfl K W.self ?_ ?_ ⟨hzip, hp1, ⟨_, _, hp2⟩, hi1, hi2, hL.at fun o e => hk3 _ o e, hLb.at fun o e => hk3 _ o e⟩ (frMove (X := fun _ => False) S2.F (fun b o _ e => hk3 b o e) (fun _ q => q.elim)) ?_ (fun b o _ e => hk3 b o e) ?_ ?_ ?_ ?_ ?_
  · intro q hq
    simp only [List.mem_cons, List.not_mem_nil, or_false] at hq
    rcases hq with rfl | rfl | rfl | rfl | rfl | rfl | rfl
    · exact ⟨by show @LT.lt Nat _ _ h3.objs.size; omega, neN (by omega)⟩
    · exact ⟨by show @LT.lt Nat _ _ h3.objs.size; omega, neN (by omega)⟩
    · exact ⟨by show @LT.lt Nat _ _ h3.objs.size; omega, neN (by omega)⟩
    · exact ⟨by show @LT.lt Nat _ _ h3.objs.size; omega, neN (by with_reducible exact Nat.ne_of_gt (by assumption))⟩
    · exact ⟨by show @LT.lt Nat _ _ h3.objs.size; omega, neN (by omega)⟩
    · exact ⟨by show @LT.lt Nat _ _ h3.objs.size; omega, hN.2.1⟩
    · exact ⟨by show @LT.lt Nat _ _ h3.objs.size; omega, hNb.2.1⟩
  · intro q hq
    simp only [List.mem_cons, List.not_mem_nil, or_false] at hq
    rcases hq with rfl | rfl | rfl | rfl
    · exact new _ (Nat.le_add_right _ _)
    · exact new _ (Nat.le_add_right _ _)
    · exact new _ (Nat.le_refl _)
    · exact new _ (Nat.le_add_right _ _)
  · intro q o e hq
    have h1 := ltN (Heap.lt_size e)
    simp only [List.mem_cons, List.not_mem_nil, or_false] at hq
    rcases hq with hq | hq | hq | hq
    · have hq : @Eq Nat q (h2'.objs.size + 4) := hq
      omega
    · have hq : @Eq Nat q (h2'.objs.size + 3) := hq
      omega
    · have hq : @Eq Nat q h2'.objs.size := hq
      omega
    · have hq : @Eq Nat q (h2'.objs.size + 1) := hq
      omega
  · show h2'.objs.size ≤ h3.objs.size
    omega
  · rintro n v C s' m' Q' E' hlt ⟨T, vals, rfl, ⟨x0, y0, hx0, hy0, rfl⟩, hT⟩ hns kk
    refine kcp_assign (env := compEnvC cscope clz C c.env) ok.hh hT (lookup_relabel_local hx) (lookup_relabel_local hy) (by simp [compEnvC, relabel, hck]) hns fun h' tk hn' hk' => ?_
    have hx1 : its[n]? = some x0 := by simpa using hx0
    have hy1 : jts[n]? = some y0 := by simpa using hy0
    obtain ⟨v0, e1, e2⟩ := hvs.at hx1
    obtain ⟨w0, f1, f2⟩ := hws.at hy1
    obtain ⟨v1, hv1⟩ : ∃ v1, as[n]? = some v1 := ⟨_, List.getElem?_eq_getElem (by omega)⟩
    obtain ⟨w1, hw1⟩ : ∃ v1, bs[n]? = some v1 := ⟨_, List.getElem?_eq_getElem (by omega)⟩
    have e1' : v0 = .int v1 := by simpa [hv1] using e1.symm
    have f1' : w0 = .int w1 := by simpa [hw1] using f1.symm
    subst e1' f1'
    cases e2 with | int _ u =>
    cases f2 with | int _ u2 =>
    exact kk h' tk _ hn' ⟨v1, w1, u, u2, hv1, hw1, by simp [hxy], by simp⟩ hk'
  · rintro n C s' m' E' hlt ⟨u, v, t1, t2, hu, hv, _, _⟩ hns F hold
    refine wpAny_tests_nil ⟨by simp [List.getElem?_zipWith, hu, hv], s'.heap, s'.toks, rfl, fun _ _ e => e⟩
  · rintro n C x1 s' m' E' hlt hd1 ⟨u, v, t1, t2, hu, hv, hmx, hmy⟩ hns F hold
    simp only [List.getElem?_zipWith, hu, hv, Option.some.injEq] at hd1
    subst hd1
    refine wpAny_BinOp (ld_loc hns hmx hck hx dx (ld_loc hns hmy hck hy dy (binI_sound (op := .add) rfl fun tk1 => ?_)))
    exact ⟨⟨_, rfl⟩, ⟨s'.heap, _, rfl, fun _ _ _ e => e⟩, F⟩
  · intro D ys h' tk hD hold F hg hys
    have h3' := filterMap_get (List.zipWith (· + ·) as bs)
    rw [List.length_zipWith] at h3'
    have hys2 : IntsAre ys (List.zipWith (· + ·) as bs) := by rw [← h3']; exact hys
    have S3 : FSt c h' m fz2 ex fr2 := S2.back F fun p hp => ⟨hold _ _ (S2.allN p hp).2.1 (S2.allN p hp).1, (S2.allN p hp).2⟩
    exact k _ fz2 h' tk (fun p hp => s2 p (s1 p hp)) S3 (S2.newList hD hg (Vals.ofInts hys2))

theorem ok_comp_tst {e' : Expr} {j : Nat} {cscope : Scope} {clz : List (Str × Addr)} {ks : List Int} {n : Int} {p1 p2 p3 p4 p5 p6 p7 pos : Pos} {kz : Nat} (ok : CxOk c d)
    (h1 : VOk c Z e' fr (.tup (ks.map .int)) fr1) (hj : c.names[j]? = some z) (ej : fr1[j]? = some (.val (.int n))) (hzk : c.cs.names.lookup z = some .cell) (hfold : ∀ v, foldedSetIterable e' c.env v = pure v)
    (hclos : closureFor cscope c.env = pure clz) (hclz : clz.lookup z = c.cl.lookup z) (hcell : ∀ y ∈ cscope.names, y.2 ≠ .cell) (hck : cscope.kind = .function) (hnames : ∀ y ∈ cscope.names, y.2 = .local → cscope.names.lookup y.1 = some .local)
    (hx : cscope.names.lookup x = some .local) (dx : (x == ("__debug__" : Str)) = false) (dz : (z == ("__debug__" : Str)) = false) (hk : ∀ C, (compEnvC cscope clz C c.env).kindOf z = some .cell)
    (hlen : ks.length ≤ 1000) (hks : ∀ v ∈ ks, 0 < v) :
    EOk c Z (.ListComp (.Name x p1) [⟨.Name x p2, e', [.Compare (.BinOp (.Name z p3) .Mod (.Name x p4) p5) [.Eq] [.Constant (.int 0) kz p6] p7], 0⟩] cscope pos) fr
      (.fresh ((ks.filter fun v => decide (n % v = 0)).map .int)) fr1 := by
  intro m fz ex s Q S hz k
  refine comp_K (h₀ := c.h₀) (L := c.L) (m := m) (cl := clz) (n := ks.length) (d := fun i => (ks[i]?).bind fun v => if n % v = 0 then some v else none) hclos hcell hck hnames hfold (by unfold sizeLine; with_reducible exact le_dn (by assumption) (by decide)) ?_
  refine h1 m fz ex s _ S hz fun av fz1 h1' t1 s1 S1 v1 => ?_
  refine Val.tupE v1 fun a its nn hm hvs => ?_
  have hN := S1.N _ (List.mem_append_left _ hm)
  have hL : h1'.IsTuple a its.toArray := ⟨_, hN.1, rfl, nn, rfl⟩
  have hil : its.length = ks.length := by have := hvs.length; simpa using this
  refine wpAny_pyIter_tuple (s := { s with heap := h1', toks := t1 }) hL ?_
  have ha := ltN (Heap.lt_size hN.1)
  have hLs := ltN S1.F.ns.lt
  have W := Walks.tuple (prog := c.prog) (w := c.w) ok.hh h1'.objs.size a (neN (by with_reducible exact Nat.ne_of_lt (by assumption))) its.toArray
  have K := KTurns.ofWalks (target := .Name x p2) W (fun i v s Q E _ hQ => wpAny_pure hQ)
  have hn : its.toArray.size = ks.length := by simpa using hil
  rw [hn] at K
  have new : ∀ b, h1'.objs.size ≤ b → c.h₀.get? b = none := fun b hb => (S1.newAt hb).2.1
  have hk2 : ∀ b o, h1'.get? b = some o → (h1'.push { cls := .type "tuple_iterator", data := .fields #[.ref a, .int 0 0] }).get? b = some o := fun b o e => Heap.get?_push_of_some _ e
  have hsz : @Eq Nat (h1'.push { cls := .type "tuple_iterator", data := .fields #[.ref a, .int 0 0] }).objs.size (h1'.objs.size + 1) := Heap.size_push ..
  refine fun G KK => KK h1' _ _ _ _ _ _ (fun i m' => ∃ v t, ks[i]? = some v ∧ m' x = some (.int v t)) rfl K W.self ?_ ?_ ⟨⟨_, Heap.get?_push_size _ rfl, rfl, rfl⟩, hL.at fun o e => hk2 _ o e⟩ (frMove (X := fun _ => False) S1.F (fun b o _ e => hk2 b o e) (fun _ q => q.elim)) ?_ (fun b o _ e => hk2 b o e) ?_ ?_ ?_ ?_ ?_
  · intro q hq
    simp only [List.mem_cons, List.not_mem_nil, or_false] at hq
    rcases hq with rfl | rfl
    · exact ⟨by show @LT.lt Nat _ _ (h1'.push _).objs.size; omega, neN (by with_reducible exact Nat.ne_of_gt (by assumption))⟩
    · exact ⟨by show @LT.lt Nat _ _ (h1'.push _).objs.size; omega, hN.2.1⟩
  · intro q hq
    simp only [List.mem_cons, List.not_mem_nil, or_false] at hq
    subst hq
    exact new _ (Nat.le_refl _)
  · intro q o e hq
    have h1 := ltN (Heap.lt_size e)
    simp only [List.mem_cons, List.not_mem_nil, or_false] at hq
    have hq : @Eq Nat q h1'.objs.size := hq
    omega
  · show @LE.le Nat _ h1'.objs.size (h1'.push _).objs.size
    omega
  · rintro i v C s' m' Q' E' hlt hv hns kk
    have hx1 : its[i]? = some v := by simpa using hv
    obtain ⟨v0, e1, e2⟩ := hvs.at hx1
    obtain ⟨v1, hv1⟩ : ∃ v1, ks[i]? = some v1 := ⟨_, List.getElem?_eq_getElem hlt⟩
    have e1' : v0 = .int v1 := by simpa [hv1] using e1.symm
    subst e1'
    cases e2 with | int _ u =>
    refine wpAny_assign_Name (wpAny_storeName_local (lookup_relabel_local hx) hns (fun h2 hn2 hs2 => ?_) (by simp [compEnvC, relabel, hck]))
    exact kk h2 _ _ hn2 ⟨v1, u, hv1, by simp⟩ fun b o hb e => hs2.extBut b o hb e
  · rintro i C s' m' E' hlt ⟨v, t, hv, hmx⟩ hns F hold
    have hv0 := hks v (List.mem_of_getElem? hv)
    refine wpAny_tests_one (wpAny_isTrue_Compare1 (wpAny_BinOp (ld_free (s := { s with heap := h1', toks := t1 }) S1 hj ej hzk hclz hck (hk C) dz (fun b o hb e => hold b o hb e) fun vv hvv => ?_)) (by rfl))
    refine Val.intE hvv fun tz => ?_
    refine ld_loc hns hmx hck hx dx (binI_sound (op := .mod) (binI_mod hv0) fun tk1 => wpAny_Constant_int (cmpI_sound (op := .eq) (wpAny_truthy_bool ⟨?_, s'.heap, _, rfl, fun _ _ e => e⟩)))
    simp only [hv, Option.bind_some, cmpI]
    by_cases h0 : n % v = 0 <;> simp [h0]
  · rintro i C x1 s' m' E' hlt hd1 ⟨v, t, hv, hmx⟩ hns F hold
    simp only [hv, Option.bind_some] at hd1
    split at hd1
    · cases hd1
      exact ld_loc hns hmx hck hx dx ⟨⟨_, rfl⟩, ⟨s'.heap, _, rfl, fun _ _ _ e => e⟩, F⟩
    · cases hd1
  · intro D ys h' tk hD hold F hg hys
    have h3' : (List.range ks.length).filterMap (fun i => (ks[i]?).bind fun v => if n % v = 0 then some v else none) = ks.filter fun v => decide (n % v = 0) := by
      rw [← List.filterMap_filterMap, filterMap_get, ← List.filterMap_eq_filter]
      congr 1
      funext v
      simp [Option.guard]
    have hys2 : IntsAre ys (ks.filter fun v => decide (n % v = 0)) := by rw [← h3']; exact hys
    have S3 : FSt c h' m fz1 ex fr1 := S1.back F fun p hp => ⟨hold _ _ (S1.allN p hp).2.1 (S1.allN p hp).1, (S1.allN p hp).2⟩
    exact k _ fz1 h' tk s1 S3 (S1.newList hD hg (Vals.ofInts hys2))
end
end Mine
end PCz

section PCt
set_option maxRecDepth 100000
open PySem PySem.W PySem.Spec PySem.Calls PyProof.Rows
namespace Mine
noncomputable def allEnts (h₀ h : Heap) (L : Addr) : Led := (List.range h.objs.size).filterMap fun b => if b = L then none else if (h₀.get? b).isSome then none else (h.get? b).map fun o => (b, o)
theorem mem_all {h₀ h : Heap} {L b : Addr} {o : Obj} (e : h.get? b = some o) (hL : b ≠ L) (h0 : h₀.get? b = none) : (b, o) ∈ allEnts h₀ h L := by
  unfold allEnts
  refine List.mem_filterMap.mpr ⟨b, List.mem_range.mpr (Heap.lt_size e), ?_⟩
  rw [if_neg hL, if_neg (by rw [h0]; decide), e]; rfl
theorem all_mem {h₀ h : Heap} {L : Addr} {q : Addr × Obj} (hq : q ∈ allEnts h₀ h L) : h.get? q.1 = some q.2 ∧ q.1 ≠ L ∧ h₀.get? q.1 = none := by
  unfold allEnts at hq
  obtain ⟨b, _, e⟩ := List.mem_filterMap.mp hq
  split at e
  · cases e
  · rename_i hL
    split at e
    · cases e
    · rename_i h0
      obtain ⟨o, ho, rfl⟩ := Option.map_eq_some_iff.mp e
      refine ⟨ho, hL, ?_⟩
      cases q : h₀.get? b with
      | none => rfl
      | some o' => rw [q] at h0; exact absurd rfl h0
theorem keep_all {h₀ h h' : Heap} {L : Addr} {m m' : Str → Option Value} {fz : Led} (F : Fr h₀ L h m) (F' : Fr h₀ L h' m') (N : News h₀ L h' fz) (hs : ∀ q ∈ allEnts h₀ h L, q ∈ fz) : ∀ b o, b ≠ L → h.get? b = some o → h'.get? b = some o := fun b o hb e => by
  cases q : h₀.get? b with
  | none => exact (N _ (hs _ (mem_all e hb q))).1
  | some o' =>
    have e1 := F.keep b o' q
    rw [e] at e1; cases e1
    exact F'.keep b _ q

section
variable {c : Cx} {d : Nat} {Z : Led} {m : Str → Option Value} {fz fz' ex : Led} {fr fr' fr1 fr2 fr3 : Frame} {s : Shared} {x y z r : Str} {i : Nat}

theorem FSt.setVal {h h' : Heap} {v : V} {vv : Value} (ok : CxOk c d) (S : FSt c h m fz ex fr) (hno : ∀ (j : Nat) (sl : Slot), fr[j]? = some sl → sl.owned = false) (hi : i < fr.length) (hx : c.names[i]? = some x) (hl : c.cs.names.lookup x = some .local) (F : Fr c.h₀ c.L h' (fun z => if z = x then some vv else m z))
    (hs : ∀ q ∈ fz, q ∈ fz') (N : News c.h₀ c.L h' (fz' ++ ex)) (dis : ∀ q ∈ fz', ∀ r ∈ ex, q.1 ≠ r.1) (hv : Val c.fa fz' v vv) : FSt c h' (fun z => if z = x then some vv else m z) fz' ex (fr.set i (.val v)) := by
  refine ⟨F, N, dis, fun j t et => ?_, fun j k2 t u y z b b' hjk et eu ht hu hy hz hb hb' => ?_⟩
  · by_cases hj : i = j
    · subst hj
      rw [List.getElem?_set_self hi] at et
      cases et
      exact ⟨x, hx, vv, .inl ⟨hl, by simp⟩, hv⟩
    · rw [List.getElem?_set_ne hj] at et
      obtain ⟨y, hy, y'⟩ := S.sl j t et
      have hyx : y ≠ x := fun e => names_inj ok hx hy hj e.symm
      refine ⟨y, hy, ?_⟩
      have h1 := hno j t et
      cases t with
      | unset => trivial
      | val v =>
        obtain ⟨w, l, v'⟩ := y'
        refine ⟨w, ?_, v'.mono hs⟩
        rcases l.mono hs with ⟨l1, l2⟩ | l
        · exact .inl ⟨l1, by simp [hyx, l2]⟩
        · exact .inr l
      | own us => cases h1
      | io us => cases h1
  · exfalso
    by_cases hj : i = j
    · subst hj
      rw [List.getElem?_set_self hi] at et
      cases et; cases ht
    · rw [List.getElem?_set_ne hj] at et
      rw [hno j t et] at ht; cases ht

theorem FSt.rebuild2 {h h' : Heap} {ex' : Led} (S : FSt c h m fz ex fr) (hs : ∀ p ∈ fz, p ∈ fz') (hno : ∀ (j : Nat) (sl : Slot), fr[j]? = some sl → sl.owned = false) (F : Fr c.h₀ c.L h' m) (N : News c.h₀ c.L h' (fz' ++ ex')) (dis : ∀ q ∈ fz', ∀ r ∈ ex', q.1 ≠ r.1) : FSt c h' m fz' ex' fr := by
  refine ⟨F, N, dis, fun i s e => ?_, S.apart⟩
  obtain ⟨x, hx, y⟩ := S.sl i s e
  refine ⟨x, hx, ?_⟩
  have h1 := hno i s e
  cases s with
  | unset => trivial
  | val v => obtain ⟨vv, l, v'⟩ := y; exact ⟨vv, l.mono hs, v'.mono hs⟩
  | own vs => cases h1
  | io vs => cases h1

theorem ld_glob {C : Addr} {cscope : Scope} {clz : List (Str × Addr)} {pos : Pos} {v : Value} {Q : Value → Shared → Prop} {E : Value → Shared → Prop} {s' : Shared} (ok : CxOk c d) (F : Fr c.h₀ c.L s'.heap m) (e : nsIn c.K mainGlobals x = some (some v)) (hck : cscope.kind = .function) (hk : (compEnvC cscope clz C c.env).kindOf x = some .globalImplicit) (hd : (x == ("__debug__" : Str)) = false)
    (h : Q v s') : wpAny (model c.prog c.w) c.A (eval (.Name x pos) (compEnvC cscope clz C c.env)) Q E s' :=
  Name_function_global hck hk (loadGlobal_global (env := compEnvC cscope clz C c.env) ((topRead_of ok.T).g.keeps F.keep) (mg_of ok.X (topRead_of ok.T).g e) h) hd

theorem sok_comp_nums {Pm : Params} {e' : Expr} {C : CallF} {ib iw il iy : Nat} {fN gN bN wN lN mN : Str} {cscope : Scope} {clz : List (Str × Addr)} {hss : List (List Int)} {ns : List Int} {b wi le : Int} {p1 p2 p3 p4 p5 p6 p7 p8 p9 p10 p11 p12 pos spos : Pos} (ok : CxOk c d) (hd : 40 ≤ d) (hK : c.K = hK Pm)
    (hC : CallSound c.prog c.w c.K c.p c.loose c.mean c.mg c.mb c.fa Z C d)
    (h1 : VOk c Z e' fr (.list (hss.map vi)) fr1) (hfold : ∀ v, foldedSetIterable e' c.env v = pure v) (hio : ∀ (i : Nat) (vs : List V), fr[i]? ≠ some (.io vs))
    (hsw : swapsWith (.ListComp (.Call (.Name fN p1) [.Call (.Name gN p2) [.Name x p3, .Name bN p4, .Name wN p5, .Name lN p6, .Name mN p7] [] p8, .Name wN p9] [] p10) [⟨.Name x p11, e', [], 0⟩] cscope pos) (some (.Name y p12)) spos.line c.env = pure true)
    (hno : ∀ (j : Nat) (sl : Slot), fr1[j]? = some sl → sl.owned = false) (hiy : iy < fr1.length) (hyn : c.names[iy]? = some y) (hyl : c.cs.names.lookup y = some .local)
    (hnb : c.names[ib]? = some bN) (eb : fr1[ib]? = some (.val (.int b))) (hbc : c.cs.names.lookup bN = some .cell)
    (hnw : c.names[iw]? = some wN) (ew : fr1[iw]? = some (.val (.int wi))) (hwc : c.cs.names.lookup wN = some .cell)
    (hnl : c.names[il]? = some lN) (el : fr1[il]? = some (.val (.int le))) (hlc : c.cs.names.lookup lN = some .cell)
    (hclos : closureFor cscope c.env = pure clz) (lb : clz.lookup bN = c.cl.lookup bN) (lw : clz.lookup wN = c.cl.lookup wN) (ll : clz.lookup lN = c.cl.lookup lN)
    (hcell : ∀ y ∈ cscope.names, y.2 ≠ .cell) (hck : cscope.kind = .function) (hnames : ∀ y ∈ cscope.names, y.2 = .local → cscope.names.lookup y.1 = some .local)
    (hx : cscope.names.lookup x = some .local) (kb : ∀ C, (compEnvC cscope clz C c.env).kindOf bN = some .cell) (kw : ∀ C, (compEnvC cscope clz C c.env).kindOf wN = some .cell) (kl : ∀ C, (compEnvC cscope clz C c.env).kindOf lN = some .cell)
    (kf : ∀ C, (compEnvC cscope clz C c.env).kindOf fN = some .globalImplicit) (kg : ∀ C, (compEnvC cscope clz C c.env).kindOf gN = some .globalImplicit) (km : ∀ C, (compEnvC cscope clz C c.env).kindOf mN = some .globalImplicit)
    (gf : nsIn c.K mainGlobals fN = some (some (.ref 336))) (gg : nsIn c.K mainGlobals gN = some (some (.ref (c.fa 22)))) (gm : nsIn c.K mainGlobals mN = some (some (.ref (c.fa 29))))
    (dx : (x == ("__debug__" : Str)) = false) (db : (bN == ("__debug__" : Str)) = false) (dw : (wN == ("__debug__" : Str)) = false) (dl : (lN == ("__debug__" : Str)) = false) (df : (fN == ("__debug__" : Str)) = false) (dg : (gN == ("__debug__" : Str)) = false) (dm : (mN == ("__debug__" : Str)) = false)
    (hfn : ∀ h, c.K.In h → FnAt 336 h) (hw : 4 ≤ wi) (hw2 : wi ≤ 8) (hlen : hss.length ≤ 1000) (hlen2 : ns.length = hss.length)
    (hval : ∀ (i : Nat) (hs : List Int) (n : Int), hss[i]? = some hs → ns[i]? = some n → ∃ cI, C (.fn 22) none [vi hs, .int b, .int wi, .int le, .fn 29] = some (vi cI, []) ∧ Num (2 ^ wi.toNat) n cI ∧ cI.length ≤ 1000) :
    SOk c Z (exec (.Assign [.Name y p12] (.ListComp (.Call (.Name fN p1) [.Call (.Name gN p2) [.Name x p3, .Name bN p4, .Name wN p5, .Name lN p6, .Name mN p7] [] p8, .Name wN p9] [] p10) [⟨.Name x p11, e', [], 0⟩] cscope pos) spos) c.env) fr .next (fr1.set iy (.val (.list (ns.map .int)))) := by
  intro m fz ex s Q S hz k
  refine comp_KA (h₀ := c.h₀) (L := c.L) (m := m) (cl := clz) (n := hss.length) (d := fun i => ns[i]?) rfl hsw hyl (by show (c.cs.kind == .class || (c.cs.kind == .module && c.L != mainGlobals)) = false; rw [ok.kind]; rfl) hclos hcell hck hnames hfold (by unfold sizeLine; with_reducible exact le_dn (by assumption) (by decide)) ?_
  refine h1 m fz ex s _ S hz fun av fz1 h1' t1 s1 S1 v1 => ?_
  refine Val.listE v1 fun a its nn hm hvs => ?_
  have hN := S1.N _ (List.mem_append_left _ hm)
  have hL : h1'.IsList a its.toArray := ⟨_, hN.1, rfl, nn, rfl⟩
  have hil : its.length = hss.length := by have := hvs.length; simpa using this
  refine wpAny_pyIter_list (s := { s with heap := h1', toks := t1 }) hL ?_
  have ha := ltN (Heap.lt_size hN.1)
  have hLs := ltN S1.F.ns.lt
  have W := Walks.list (prog := c.prog) (w := c.w) ok.hh h1'.objs.size a (neN (by with_reducible exact Nat.ne_of_lt (by assumption))) its.toArray
  have K := KTurns.ofWalks (target := .Name x p11) W (fun i v s Q E _ hQ => wpAny_pure hQ)
  have hn : its.toArray.size = hss.length := by simpa using hil
  rw [hn] at K
  have new : ∀ b, h1'.objs.size ≤ b → c.h₀.get? b = none := fun b hb => (S1.newAt hb).2.1
  have hk2 : ∀ b o, h1'.get? b = some o → (h1'.push { cls := .type "list_iterator", data := .fields #[.ref a, .int 0 0] }).get? b = some o := fun b o e => Heap.get?_push_of_some _ e
  have hsz : @Eq Nat (h1'.push { cls := .type "list_iterator", data := .fields #[.ref a, .int 0 0] }).objs.size (h1'.objs.size + 1) := Heap.size_push ..
  refine fun G KK => KK h1' _ _ _ _ _ _ (fun i m' => ∃ (v : Value) (hs : List Int), hss[i]? = some hs ∧ m' x = some v ∧ Val c.fa fz1 (vi hs) v) rfl K W.self ?_ ?_ ⟨⟨_, Heap.get?_push_size _ rfl, rfl, rfl⟩, hL.at fun o e => hk2 _ o e⟩ (frMove (X := fun _ => False) S1.F (fun b o _ e => hk2 b o e) (fun _ q => q.elim)) ?_ (fun b o _ e => hk2 b o e) ?_ ?_ ?_ ?_ ?_
  · intro q hq
    simp only [List.mem_cons, List.not_mem_nil, or_false] at hq
    rcases hq with rfl | rfl
    · exact ⟨by show @LT.lt Nat _ _ (h1'.push _).objs.size; omega, neN (by with_reducible exact Nat.ne_of_gt (by assumption))⟩
    · exact ⟨by show @LT.lt Nat _ _ (h1'.push _).objs.size; omega, hN.2.1⟩
  · intro q hq
    simp only [List.mem_cons, List.not_mem_nil, or_false] at hq
    subst hq
    exact new _ (Nat.le_refl _)
  · intro q o e hq
    have h1 := ltN (Heap.lt_size e)
    simp only [List.mem_cons, List.not_mem_nil, or_false] at hq
    have hq : @Eq Nat q h1'.objs.size := hq
    omega
  · show @LE.le Nat _ h1'.objs.size (h1'.push _).objs.size
    omega
  · rintro i v C s' m' Q' E' hlt hv hns kk
    have hx1 : its[i]? = some v := by simpa using hv
    obtain ⟨v0, e1, e2⟩ := hvs.at hx1
    obtain ⟨v1, hv1⟩ : ∃ v1, hss[i]? = some v1 := ⟨_, List.getElem?_eq_getElem hlt⟩
    have e1' : v0 = vi v1 := by
      rw [List.getElem?_map, hv1] at e1
      exact (Option.some.inj e1).symm
    subst e1'
    refine wpAny_assign_Name (wpAny_storeName_local (lookup_relabel_local hx) hns (fun h2 hn2 hs2 => ?_) (by simp [compEnvC, relabel, hck]))
    exact kk h2 _ _ hn2 ⟨v, v1, hv1, by simp, e2⟩ fun b o hb e => hs2.extBut b o hb e
  · rintro i C s' m' E' hlt _ hns F hold
    have hni : (ns[i]?).isSome = true := by rw [List.getElem?_eq_getElem (show i < ns.length by with_reducible exact Nat.lt_of_lt_of_eq (by assumption) (Eq.symm (by assumption)))]; rfl
    exact wpAny_tests_nil ⟨hni.symm, s'.heap, s'.toks, rfl, fun _ _ e => e⟩
  · rintro i C₀ n1 s' m' E' hlt hd1 ⟨v, hs, hhs, hmx, hvv⟩ hns F hold
    obtain ⟨cI, hcall, hnum, hcl⟩ := hval i hs n1 hhs hd1
    have fn336 : ∀ h, Fr c.h₀ c.L h m → FnAt 336 h := fun h F => hfn h (ok.X.keeps F.keep)
    obtain ⟨kk22, e22, hfn22⟩ := hC.fn _ _ _ _ hcall
    cases e22
    let AE := allEnts c.h₀ s'.heap c.L
    have sub : ∀ q ∈ fz1, q ∈ AE := fun q hq => by
      have hq' := S1.N q (List.mem_append_left _ hq)
      exact mem_all (hold _ _ hq'.2.1 hq'.1) hq'.2.1 hq'.2.2
    have NA : News c.h₀ c.L s'.heap AE := fun q hq => all_mem hq
    have hzA : ∀ q ∈ Z, q ∈ AE := fun q hq => sub q (s1 _ (hz q hq))
    have f22 : FnAt (c.fa 22) s'.heap := hfn22 _ AE (ok.X.keeps F.keep) (fun q hq => (NA q hq).1) hzA
    refine call_shape (ld_glob ok F gf hck (kf C₀) df (callWith_F (fn336 _ F) (spliced_more (call_shape (ld_glob ok F gg hck (kg C₀) dg (callWith_F f22 (spliced_more (ld_loc hns hmx hck hx dx (spliced_more (ld_free (s := { s with heap := h1', toks := t1 }) S1 hnb eb hbc lb hck (kb C₀) db (fun b o hb e => hold b o hb e) fun bv hbv => spliced_more (ld_free (s := { s with heap := h1', toks := t1 }) S1 hnw ew hwc lw hck (kw C₀) dw (fun b o hb e => hold b o hb e) fun wv hwv => spliced_more (ld_free (s := { s with heap := h1', toks := t1 }) S1 hnl el hlc ll hck (kl C₀) dl (fun b o hb e => hold b o hb e) fun lv hlv => spliced_more (ld_glob ok F gm hck (km C₀) dm (spliced_none ⟨f22, ?_⟩)) rfl) rfl) rfl) rfl)) rfl)))) rfl)))
    refine wpAny_mono (hC.run 22 none [vi hs, .int b, .int wi, .int le, .fn 29] (vi cI) [] hcall c.env c.L c.outer c.A c.A₀ c.base c.h₀ m AE [] s' [v, bv, wv, lv, .ref (c.fa 29)] 0 _ rfl ok.kind ok.hh ok.fr ok.dep ok.un ok.B ok.X ok.T F (by simpa using NA) (fun _ _ _ h => by simp at h) hzA (.cons (hvv.mono sub) (.cons (hbv.mono sub) (.cons (hwv.mono sub) (.cons (hlv.mono sub) (.cons (.fn 29) .nil))))) (fun _ e => by cases e) ?_) (fun _ _ q => q) (fun _ _ q => q.elim)
    intro rv fz2 h2 t2 hs2 F2 N2 _ v2 _
    rw [List.append_nil] at N2
    refine Val.listE v2 fun a2 its2 n2 hm2 hvs2 => ?_
    have hI2 := hvs2.ints (intsV_map cI)
    have keep2 := keep_all F F2 N2 hs2
    refine spliced_more (ld_free (s := { s with heap := h1', toks := t1 }) S1 hnw ew hwc lw hck (kw C₀) dw (fun b o hb e => keep2 b o hb (hold b o hb e)) fun wv2 hwv2 => spliced_none ⟨fn336 _ F2, ?_⟩) rfl
    refine Val.intE hwv2 fun tw => ?_
    have okd := ok.dep
    have oku := ok.un
    refine c_number (P := Pm) (news := fz2) ok.B F2 (hK ▸ ok.X) N2 ok.T ok.fr rfl ok.kind ok.hh (by omega) (by omega) hm2 hI2 hnum hcl hw hw2 fun t h3 t3 F3 N3 => ?_
    exact ⟨⟨t, rfl⟩, ⟨h3, t3, rfl, keep_all F F3 N3 hs2⟩, F3⟩
  · intro D ys h' tk hD hold F hg hys
    have e1 := filterMap_get ns
    rw [hlen2] at e1
    rw [e1] at hys
    obtain ⟨b1, b2, b3, b4, b5⟩ := S1.newAt hD
    refine k .next _ ((D, PySem.W.listOf ys.toArray ys.length) :: fz1) h' tk (fun q hq => .tail _ (s1 q hq)) (S1.setVal ok hno hiy hyn hyl F (fun q hq => .tail _ hq) (fun q hq => ?_) (fun q hq r hr => ?_) (.list (.head _) (Vals.ofInts hys))) (fun i vs x e => absurd e (hio i vs)) trivial
    · rcases List.mem_cons.mp hq with rfl | hq
      · exact ⟨hg, b1, b2⟩
      · have := S1.N q hq
        exact ⟨hold _ _ this.2.1 this.1, this.2⟩
    · rcases List.mem_cons.mp hq with rfl | hq
      · exact Ne.symm (b4 r hr)
      · exact S1.dis q hq r hr
end
end Mine
end PCt

section PPm
set_option maxRecDepth 100000
open PySem PySem.W PySem.Spec PySem.Calls PyProof.Rows
namespace Mine

local macro_rules | `(tactic| k_all) => `(tactic| assumption)
local macro_rules | `(tactic| walk_at "call ref") => `(tactic| (k_here; (with_reducible show wpAny _ _ (call (Value.ref 247) _) _ _ _); refine halt ?_))
local macro_rules | `(tactic| walk_at "call ref") => `(tactic| (k_here; (with_reducible show wpAny _ _ (call (Value.ref 317) _) _ _ _); refine halt ?_))
local macro_rules | `(tactic| walk_at "call ref") => `(tactic| (k_here; (with_reducible show wpAny _ _ (call (Value.ref 254) _) _ _ _); refine halt ?_))
local macro_rules | `(tactic| walk_at "call ref") => `(tactic| (k_here; (with_reducible show wpAny _ _ (call (Value.ref 240) _) _ _ _); refine halt ?_))
noncomputable def qMul : Str := Str.ofString "divided_times.<locals>.multiplied"
noncomputable abbrev tab1 (c : Addr) : Array Value := #[rawInt ((214 : Nat) : Int), rawInt ((4 : Nat) : Int), .ref c]
noncomputable def TabOk (ps : Array Value) (fz : Led) : Prop := ps = #[] ∨ ∃ c' oc vs t, ps = tab1 c' ∧ (c', oc) ∈ fz ∧ oc.data = .fields vs ∧ vs[1]? = some (.str qMul t)
theorem TabOk.mono {ps : Array Value} {fz fz' : Led} (h : TabOk ps fz) (hs : ∀ p ∈ fz, p ∈ fz') : TabOk ps fz' := by
  rcases h with h | ⟨c', oc, vs, t, h1, h2, h3, h4⟩
  · exact .inl h
  · exact .inr ⟨c', oc, vs, t, h1, hs _ h2, h3, h4⟩
theorem allLt_mem {d : Nat} {l : Led} (h : AllLt d l) : ∀ q ∈ l, @LT.lt Nat _ q.1 d := by
  induction l with
  | nil => intro q hq; cases hq
  | cons p r ih =>
    intro q hq
    rcases List.mem_cons.mp hq with e | hq
    · rw [e]; exact h.1
    · exact ih h.2 q hq
theorem nCons {h₀ h : Heap} {L : Addr} {e : Addr × Obj} {all r : Led} (N : News h₀ L h all) (h1 : e ∈ all) (h2 : News h₀ L h r) : News h₀ L h (e :: r) := fun p hp => by
  rcases List.mem_cons.mp hp with rfl | hp
  · exact N _ h1
  · exact h2 p hp
section
variable {prog : Program} {w : World} {P : Params} {p : Program} {loose : List Str} {mean : ExcName → Option Value} {mg mb : Str → Option Value} {A₀ : Around} {s : Shared} {base h₀ : Heap} {L f : Addr} {m : Str → Option Value} {cn : Str} {cs : Scope} {ccd : Value} {cl : List (Str × Addr)} {E Q : Value → Shared → Prop}
set_option maxHeartbeats 8000000 in
theorem c_pmod0 {b M wi size En : Int} {a e mm : Addr} {itsA itsE itsM : List Value} {iA iE iM : Nat} {cA cE cM : List Int} {t1 t2 : Tok} {rest : Led}
    (B : Below A₀ base [] h₀) (F : Fr h₀ L s.heap m) (X₀ : (hK P).In h₀) (N : News h₀ L s.heap ((a, W.listOf itsA.toArray iA) :: (e, W.listOf itsE.toArray iE) :: (mm, W.listOf itsM.toArray iM) :: (256, tabObj #[]) :: rest)) (hr : ∀ q ∈ rest, q.1 ≠ 256) (T : Top p loose mean mg mb h₀) (hke : cs.kind = .function)
    (CH : CodeHd base 260 256)
    (hIA : IntsAre itsA cA) (hIE : IntsAre itsE cE) (hIM : IntsAre itsM cM) (hcA : Num (2 ^ wi.toNat) b cA ∧ Big b) (hcE : Num (2 ^ wi.toNat) En cE) (hcM : Num (2 ^ wi.toNat) M cM) (hE0 : 0 < En) (hE1 : En < 1000) (hM0 : 1 < M) (hM1 : M < 1000) (hw : 4 ≤ wi) (hw2 : wi ≤ 8) (hs1 : 1 ≤ size) (hs2 : size ≤ 10)
    (kk : ∀ c' a' its' i' h' tk' cc oc vs t, Num (2 ^ wi.toNat) (b ^ En.toNat % M) c' → IntsAre its' c' → Fr h₀ L h' m → News h₀ L h' ((a', W.listOf (its' : List Value).toArray i') :: (256, tabObj (tab1 cc)) :: (cc, oc) :: rest) → (∀ q ∈ rest, q.1 < cc) → @LT.lt Nat _ 256 cc → oc.data = .fields vs → vs[1]? = some (.str qMul t) → Q (.ref a') { s with heap := h', toks := tk' }) :
    wpAny (model prog w) (callerA.deeper (envX cn cs L f ccd cl)) (call (.ref 268) [.ref a, .ref e, .ref mm, .int wi t1, .int size t2, .ref 275, .ref 317]) Q E s := by
  refine wpAny_call ?_
  refine' code_def ?k1 ?k2 ?k3 ?k4 ?k5 ?kA ?kF ?kK ?k6 ?k7 ?k8 ?k9 ?kB ?_ ?c2 ?c3 ?c4 ?c5; (case kA => exact rfl); (case kF => exact rfl); (case kK => exact hke); (case k1 => k_asm); (case k2 => k_asm); (case k3 => k_asm); (case k4 => k_asm); (case k5 => k_asm); (case k6 => k_is); (case k7 => k_is); (case k8 => k_room); (case k9 => exact BindsTo.of_eq rfl); (case c5 => decide); (case kB => exact locs rfl); (case c2 => exact rfl); (case c3 => exact rfl); (case c4 => exact rfl); k_whole; intro g' L' h' FG' F' N' B' X' T'; (try dsimp only); (try k_lift B')
  have na' := ne_tab N' (List.Mem.head _) (by k_mem) (by intro q; cases q)
  have ne' := ne_tab N' (List.Mem.tail _ (List.Mem.head _)) (by k_mem) (by intro q; cases q)
  have nm' := ne_tab N' (List.Mem.tail _ (List.Mem.tail _ (List.Mem.head _))) (by k_mem) (by intro q; cases q)
  k_steps
  (repeat' ((with_reducible refine halted ?_); (first
    | ((with_reducible show wpAny _ _ (call (Value.ref 247) [Value.ref _]) _ _ _); k_dflt ((refine' c_chk ?k1 ?k2 ?k3 ?k4 ?k5 ?kA ?kF ?kK ?kh ?k6 ?k7 ?km ?kI ?kc ?kM ?_); (case kA => exact rfl); (case kF => exact rfl); (case kK => exact rfl); (case kh => exact rfl); (case k1 => k_asm); (case k2 => k_asm); (case k3 => k_asm); (case k4 => k_asm); (case k5 => k_asm); (case k6 => ((try simp only [depth_under_make, depth_under_kw, depth_in1, depth_deeper, depth_caller]); decide)); (case k7 => ((try simp only [units_in1, units_deeper, Around.mark_units, units_caller]); decide)); (case km => k_mem); (case kI => k_asm); (case kc => assumption); (case kM => omega); k_whole); intro h' tkk' F' N'; (try dsimp only at N'))
    | ((with_reducible show wpAny _ _ (call (Value.ref 317) [Value.ref _, Value.ref _, Value.int _ _]) _ _ _); k_dflt ((refine' c_divrem ?k1 ?k2 ?k3 ?k4 ?k5 ?kA ?kF ?kK ?kh ?k6 ?k7 ?km ?km1 ?kI ?kI1 ?kc ?kc1 ?kp0 ?kp1 ?kw0 ?kw1 ?_); (case kA => exact rfl); (case kF => exact rfl); (case kK => exact rfl); (case kh => exact rfl); (case k1 => k_asm); (case k2 => k_asm); (case k3 => k_asm); (case k4 => k_asm); (case k5 => k_asm); (case k6 => ((try simp only [depth_under_make, depth_under_kw, depth_in1, depth_deeper, depth_caller]); decide)); (case k7 => ((try simp only [units_in1, units_deeper, Around.mark_units, units_caller]); decide)); (case km => k_mem); (case km1 => k_mem); (case kI => k_asm); (case kI1 => k_asm); (case kc => assumption); (case kc1 => assumption); (case kp0 => omega); (case kp1 => omega); (case kw0 => assumption); (case kw1 => assumption); k_whole); intro quo' rem' Dq' Dr' D' its' jts' n1' n2' n3' h' tkk' hqr' hIr' hIs' F' N'; (try dsimp only at N'); k_dflt (have nt0' := ne_tab N' (List.Mem.head _) (by k_mem) (by intro q; cases q)); k_dflt (have nt1' := ne_tab N' (List.Mem.tail _ (List.Mem.head _)) (by k_mem) (by intro q; cases q)); k_dflt (have nt2' := ne_tab N' (List.Mem.tail _ (List.Mem.tail _ (List.Mem.head _))) (by k_mem) (by intro q; cases q)))
    | ((with_reducible show wpAny _ _ (call (Value.ref 254) [Value.ref _]) _ _ _); k_dflt ((refine' c_unit ?k1 ?k2 ?k3 ?k4 ?k5 ?kA ?kF ?kK ?kh ?k6 ?k7 ?km ?kI ?kc ?kM ?_); (case kA => exact rfl); (case kF => exact rfl); (case kK => exact rfl); (case kh => exact rfl); (case k1 => k_asm); (case k2 => k_asm); (case k3 => k_asm); (case k4 => k_asm); (case k5 => k_asm); (case k6 => ((try simp only [depth_under_make, depth_under_kw, depth_in1, depth_deeper, depth_caller]); decide)); (case k7 => ((try simp only [units_in1, units_deeper, Around.mark_units, units_caller]); decide)); (case km => k_mem); (case kI => k_asm); (case kc => assumption); (case kM => omega); k_whole); intro cu' Du' its' n1' h' tkk' hcu' hIr' F' N'; (try dsimp only at N'); k_dflt (have nt0' := ne_tab N' (List.Mem.head _) (by k_mem) (by intro q; cases q)))
    | ((with_reducible show wpAny _ _ (call (Value.ref 240) [Value.ref _, Value.ref _, Value.int _ _, Value.int _ _, Value.ref _, Value.ref _]) _ _ _); k_dflt ((refine' c_bywin ?k1 ?k2 ?k3 ?k4 ?k5 ?kA ?kF ?kK ?kh ?k6 ?k7 ?kT ?km ?kI ?kc ?kmE ?kIE ?kcE ?kE0 ?kE1 ?km1 ?kI1 ?kcM ?kM ?kM2 ?kw0 ?kw1 ?ks1 ?ks2 ?_); (case kA => exact rfl); (case kF => exact rfl); (case kK => exact rfl); (case kh => exact rfl); (case k1 => k_asm); (case k2 => k_asm); (case k3 => k_asm); (case k4 => k_asm); (case k5 => k_asm); (case k6 => ((try simp only [depth_under_make, depth_under_kw, depth_in1, depth_deeper, depth_caller]); decide)); (case k7 => ((try simp only [units_in1, units_deeper, Around.mark_units, units_caller]); decide)); (case km => k_mem); (case kI => k_asm); (case kc => exact And.left (And.right (by assumption))); (case kmE => k_mem); (case kIE => k_asm); (case kcE => assumption); (case kE0 => assumption); (case kE1 => assumption); (case km1 => k_mem); (case kI1 => k_asm); (case kcM => assumption); (case kM => assumption); (case kM2 => assumption); (case kw0 => assumption); (case kw1 => assumption); (case ks1 => assumption); (case ks2 => assumption); (case kT => (refine' mult_fnd (wi := ?wi) ?hq ?hoc ?hd ?hv ?hM ?hI ?l1 ?l2 ?l3 ?l4 ?m1 ?m2 ?m3 ?m4 ?d1 ?d2 ?hwn ?d3 ?d4 ?s1 ?s2 ?s3 ?s4 ?hb ?loc ?ncell ?nco ?ngen ?kind ?tss; (case hq => k_mem); (case hoc => k_mem); (case hd => assumption); (case hv => assumption); (case l1 => exact rfl); (case l2 => exact rfl); (case l3 => exact rfl); (case l4 => exact rfl); (case m1 => k_mem); (case m2 => k_mem); (case m3 => k_mem); (case m4 => k_mem); (case d1 => assumption); (case d2 => assumption); (case d3 => assumption); (case d4 => assumption); (case hwn => omega); (case hM => k_mem); (case hI => assumption); (case s1 => exact rfl); (case s2 => exact rfl); (case s3 => exact rfl); (case s4 => exact rfl); (case hb => exact fun _ _ => rfl); (case loc => decide); (case ncell => decide); (case nco => exact rfl); (case ngen => exact rfl); (case kind => exact rfl); (case tss => (refine (.cons (.ret (.idxe (.call (.var ?_ ?_) (.cons (.call (.var ?_ ?_) (.cons (.var ?_ ?_) (.cons (.var ?_ ?_) (.cons (.var ?_ ?_) .nil)))) (.cons (.var ?_ ?_) (.cons (.var ?_ ?_) .nil)))) .int)) .nil); all_goals rfl)))); k_whole); intro cw' Dw' its' n1' h' tkk' hcw' hIr' F' N'; (try dsimp only at N'))); k_steps))
  refine kk _ _ _ _ _ _ _ _ _ _ (by assumption) (by assumption) (by assumption) (nCons (by assumption) (by k_mem) (nCons (by assumption) (by k_mem) (nCons (by assumption) (by k_mem) ?_))) (allLt_mem (And.right (And.right (And.right (And.right (And.right (And.right (And.right (And.right (And.right (And.right (And.right (And.right (by assumption)))))))))))))) (by (try dsimp only); omega) (by assumption) (by assumption)
  intro q hq
  refine News.get2 (by assumption) ?_
  repeat (first | exact hq | refine List.Mem.tail _ ?_)
set_option maxHeartbeats 8000000 in
theorem c_pmod1 {b M wi size En : Int} {a e mm c₁ : Addr} {oc₁ : Obj} {vs₁ : Array Value} {t₁ : Tok} {itsA itsE itsM : List Value} {iA iE iM : Nat} {cA cE cM : List Int} {t1 t2 : Tok} {rest : Led}
    (B : Below A₀ base [] h₀) (F : Fr h₀ L s.heap m) (X₀ : (hK P).In h₀) (N : News h₀ L s.heap ((a, W.listOf itsA.toArray iA) :: (e, W.listOf itsE.toArray iE) :: (mm, W.listOf itsM.toArray iM) :: (c₁, oc₁) :: (256, tabObj (tab1 c₁)) :: rest)) (hd₁ : oc₁.data = .fields vs₁) (hv₁ : vs₁[1]? = some (.str qMul t₁)) (hr : ∀ q ∈ rest, q.1 ≠ 256) (hc₁ : (c₁, oc₁) ∈ rest) (T : Top p loose mean mg mb h₀) (hke : cs.kind = .function)
    (CH : CodeHd base 260 256)
    (hIA : IntsAre itsA cA) (hIE : IntsAre itsE cE) (hIM : IntsAre itsM cM) (hcA : Num (2 ^ wi.toNat) b cA ∧ Big b) (hcE : Num (2 ^ wi.toNat) En cE) (hcM : Num (2 ^ wi.toNat) M cM) (hE0 : 0 < En) (hE1 : En < 1000) (hM0 : 1 < M) (hM1 : M < 1000) (hw : 4 ≤ wi) (hw2 : wi ≤ 8) (hs1 : 1 ≤ size) (hs2 : size ≤ 10)
    (kk : ∀ c' a' its' i' h' tk', Num (2 ^ wi.toNat) (b ^ En.toNat % M) c' → IntsAre its' c' → Fr h₀ L h' m → News h₀ L h' ((a', W.listOf (its' : List Value).toArray i') :: (256, tabObj (tab1 c₁)) :: rest) → Q (.ref a') { s with heap := h', toks := tk' }) :
    wpAny (model prog w) (callerA.deeper (envX cn cs L f ccd cl)) (call (.ref 268) [.ref a, .ref e, .ref mm, .int wi t1, .int size t2, .ref 275, .ref 317]) Q E s := by
  refine wpAny_call ?_
  refine' code_def ?k1 ?k2 ?k3 ?k4 ?k5 ?kA ?kF ?kK ?k6 ?k7 ?k8 ?k9 ?kB ?_ ?c2 ?c3 ?c4 ?c5; (case kA => exact rfl); (case kF => exact rfl); (case kK => exact hke); (case k1 => k_asm); (case k2 => k_asm); (case k3 => k_asm); (case k4 => k_asm); (case k5 => k_asm); (case k6 => k_is); (case k7 => k_is); (case k8 => k_room); (case k9 => exact BindsTo.of_eq rfl); (case c5 => decide); (case kB => exact locs rfl); (case c2 => exact rfl); (case c3 => exact rfl); (case c4 => exact rfl); k_whole; intro g' L' h' FG' F' N' B' X' T'; (try dsimp only); (try k_lift B')
  have na' := ne_tab N' (List.Mem.head _) (by k_mem) (by intro q; cases q)
  have ne' := ne_tab N' (List.Mem.tail _ (List.Mem.head _)) (by k_mem) (by intro q; cases q)
  have nm' := ne_tab N' (List.Mem.tail _ (List.Mem.tail _ (List.Mem.head _))) (by k_mem) (by intro q; cases q)
  k_steps
  (repeat' ((with_reducible refine halted ?_); (first
    | ((with_reducible show wpAny _ _ (call (Value.ref 247) [Value.ref _]) _ _ _); k_dflt ((refine' c_chk ?k1 ?k2 ?k3 ?k4 ?k5 ?kA ?kF ?kK ?kh ?k6 ?k7 ?km ?kI ?kc ?kM ?_); (case kA => exact rfl); (case kF => exact rfl); (case kK => exact rfl); (case kh => exact rfl); (case k1 => k_asm); (case k2 => k_asm); (case k3 => k_asm); (case k4 => k_asm); (case k5 => k_asm); (case k6 => ((try simp only [depth_under_make, depth_under_kw, depth_in1, depth_deeper, depth_caller]); decide)); (case k7 => ((try simp only [units_in1, units_deeper, Around.mark_units, units_caller]); decide)); (case km => k_mem); (case kI => k_asm); (case kc => assumption); (case kM => omega); k_whole); intro h' tkk' F' N'; (try dsimp only at N'))
    | ((with_reducible show wpAny _ _ (call (Value.ref 317) [Value.ref _, Value.ref _, Value.int _ _]) _ _ _); k_dflt ((refine' c_divrem ?k1 ?k2 ?k3 ?k4 ?k5 ?kA ?kF ?kK ?kh ?k6 ?k7 ?km ?km1 ?kI ?kI1 ?kc ?kc1 ?kp0 ?kp1 ?kw0 ?kw1 ?_); (case kA => exact rfl); (case kF => exact rfl); (case kK => exact rfl); (case kh => exact rfl); (case k1 => k_asm); (case k2 => k_asm); (case k3 => k_asm); (case k4 => k_asm); (case k5 => k_asm); (case k6 => ((try simp only [depth_under_make, depth_under_kw, depth_in1, depth_deeper, depth_caller]); decide)); (case k7 => ((try simp only [units_in1, units_deeper, Around.mark_units, units_caller]); decide)); (case km => k_mem); (case km1 => k_mem); (case kI => k_asm); (case kI1 => k_asm); (case kc => assumption); (case kc1 => assumption); (case kp0 => omega); (case kp1 => omega); (case kw0 => assumption); (case kw1 => assumption); k_whole); intro quo' rem' Dq' Dr' D' its' jts' n1' n2' n3' h' tkk' hqr' hIr' hIs' F' N'; (try dsimp only at N'); k_dflt (have nt0' := ne_tab N' (List.Mem.head _) (by k_mem) (by intro q; cases q)); k_dflt (have nt1' := ne_tab N' (List.Mem.tail _ (List.Mem.head _)) (by k_mem) (by intro q; cases q)); k_dflt (have nt2' := ne_tab N' (List.Mem.tail _ (List.Mem.tail _ (List.Mem.head _))) (by k_mem) (by intro q; cases q)))
    | ((with_reducible show wpAny _ _ (call (Value.ref 254) [Value.ref _]) _ _ _); k_dflt ((refine' c_unit ?k1 ?k2 ?k3 ?k4 ?k5 ?kA ?kF ?kK ?kh ?k6 ?k7 ?km ?kI ?kc ?kM ?_); (case kA => exact rfl); (case kF => exact rfl); (case kK => exact rfl); (case kh => exact rfl); (case k1 => k_asm); (case k2 => k_asm); (case k3 => k_asm); (case k4 => k_asm); (case k5 => k_asm); (case k6 => ((try simp only [depth_under_make, depth_under_kw, depth_in1, depth_deeper, depth_caller]); decide)); (case k7 => ((try simp only [units_in1, units_deeper, Around.mark_units, units_caller]); decide)); (case km => k_mem); (case kI => k_asm); (case kc => assumption); (case kM => omega); k_whole); intro cu' Du' its' n1' h' tkk' hcu' hIr' F' N'; (try dsimp only at N'); k_dflt (have nt0' := ne_tab N' (List.Mem.head _) (by k_mem) (by intro q; cases q)))
    | ((with_reducible show wpAny _ _ (call (Value.ref 240) [Value.ref _, Value.ref _, Value.int _ _, Value.int _ _, Value.ref _, Value.ref _]) _ _ _); k_dflt ((refine' c_bywin ?k1 ?k2 ?k3 ?k4 ?k5 ?kA ?kF ?kK ?kh ?k6 ?k7 ?kT ?km ?kI ?kc ?kmE ?kIE ?kcE ?kE0 ?kE1 ?km1 ?kI1 ?kcM ?kM ?kM2 ?kw0 ?kw1 ?ks1 ?ks2 ?_); (case kA => exact rfl); (case kF => exact rfl); (case kK => exact rfl); (case kh => exact rfl); (case k1 => k_asm); (case k2 => k_asm); (case k3 => k_asm); (case k4 => k_asm); (case k5 => k_asm); (case k6 => ((try simp only [depth_under_make, depth_under_kw, depth_in1, depth_deeper, depth_caller]); decide)); (case k7 => ((try simp only [units_in1, units_deeper, Around.mark_units, units_caller]); decide)); (case km => k_mem); (case kI => k_asm); (case kc => exact And.left (And.right (by assumption))); (case kmE => k_mem); (case kIE => k_asm); (case kcE => assumption); (case kE0 => assumption); (case kE1 => assumption); (case km1 => k_mem); (case kI1 => k_asm); (case kcM => assumption); (case kM => assumption); (case kM2 => assumption); (case kw0 => assumption); (case kw1 => assumption); (case ks1 => assumption); (case ks2 => assumption); (case kT => (refine' mult_fnd (wi := ?wi) ?hq ?hoc ?hd ?hv ?hM ?hI ?l1 ?l2 ?l3 ?l4 ?m1 ?m2 ?m3 ?m4 ?d1 ?d2 ?hwn ?d3 ?d4 ?s1 ?s2 ?s3 ?s4 ?hb ?loc ?ncell ?nco ?ngen ?kind ?tss; (case hq => k_mem); (case hoc => k_mem); (case hd => assumption); (case hv => assumption); (case l1 => exact rfl); (case l2 => exact rfl); (case l3 => exact rfl); (case l4 => exact rfl); (case m1 => k_mem); (case m2 => k_mem); (case m3 => k_mem); (case m4 => k_mem); (case d1 => assumption); (case d2 => assumption); (case d3 => assumption); (case d4 => assumption); (case hwn => omega); (case hM => k_mem); (case hI => assumption); (case s1 => exact rfl); (case s2 => exact rfl); (case s3 => exact rfl); (case s4 => exact rfl); (case hb => exact fun _ _ => rfl); (case loc => decide); (case ncell => decide); (case nco => exact rfl); (case ngen => exact rfl); (case kind => exact rfl); (case tss => (refine (.cons (.ret (.idxe (.call (.var ?_ ?_) (.cons (.call (.var ?_ ?_) (.cons (.var ?_ ?_) (.cons (.var ?_ ?_) (.cons (.var ?_ ?_) .nil)))) (.cons (.var ?_ ?_) (.cons (.var ?_ ?_) .nil)))) .int)) .nil); all_goals rfl)))); k_whole); intro cw' Dw' its' n1' h' tkk' hcw' hIr' F' N'; (try dsimp only at N'))); k_steps))
  refine kk _ _ _ _ _ _ (by assumption) (by assumption) (by assumption) (nCons (by assumption) (by k_mem) (nCons (by assumption) (by k_mem) ?_))
  intro q hq
  refine News.get2 (by assumption) ?_
  repeat (first | exact hq | refine List.Mem.tail _ ?_)
end
end Mine
end PPm

section PLt
set_option maxRecDepth 100000
open PySem PySem.W PySem.Spec PySem.Calls PyProof.Rows
namespace Mine
noncomputable def SOkT (c : Cx) (t : Sem Flow) (fr : Frame) (fl : Fl) (fr' : Frame) : Prop :=
  ∀ (m : Str → Option Value) (fz ex : Led) (ps : Array Value) (s : Shared) (Q : Flow → Shared → Prop), FSt c s.heap m fz ((256, tabObj ps) :: ex) fr → TabOk ps fz → (∀ q ∈ ex, q.1 ≠ 256 ∧ q.2.cls ≠ .type "list") →
    (∀ flv m' fz' ps' h' tk', (∀ p ∈ fz, p ∈ fz') → FSt c h' m' fz' ((256, tabObj ps') :: ex) fr' → TabOk ps' fz' → FlV c.fa fz' fl flv → Q flv { s with heap := h', toks := tk' }) → wpAny (model c.prog c.w) c.A t Q NoE s
theorem SOk.toT {c : Cx} {t : Sem Flow} {fr fr' : Frame} {fl : Fl} (h : SOk c [] t fr fl fr') : SOkT c t fr fl fr' := by
  intro m fz ex ps s Q S hT hx k
  exact h m fz _ s Q S (fun _ h => by simp at h) fun flv m' fz' h' tk' hs S' _ f' => k flv m' fz' ps h' tk' hs S' (hT.mono hs) f'
theorem sokT_cons {c : Cx} {fr fr1 fr2 : Frame} {st : Stmt} {rest : List Stmt} {fl : Fl} (h : SOkT c (exec st c.env) fr .next fr1) (hr : SOkT c (execs rest c.env) fr1 fl fr2) : SOkT c (execs (st :: rest) c.env) fr fl fr2 := by
  intro m fz ex ps s Q S hT hx k
  refine wpAny_execs_cons (h m fz ex ps s _ S hT hx fun flv m' fz' ps' h' tk' hs S' hT' f' => ?_)
  cases flv <;> simp only [FlV] at f'
  exact hr m' fz' ex ps' _ Q S' hT' hx fun flv m2 fz2 ps2 h2 tk2 hs2 S2 hT2 f2 => k flv m2 fz2 ps2 h2 tk2 (fun p hp => hs2 p (hs p hp)) S2 hT2 f2
theorem sokT_stop {c : Cx} {fr fr1 : Frame} {st : Stmt} {rest : List Stmt} {fl : Fl} (h : SOkT c (exec st c.env) fr fl fr1) (hf : fl ≠ .next) : SOkT c (execs (st :: rest) c.env) fr fl fr1 := by
  intro m fz ex ps s Q S hT hx k
  refine wpAny_execs_cons (h m fz ex ps s _ S hT hx fun flv m' fz' ps' h' tk' hs S' hT' f' => ?_)
  have := k flv m' fz' ps' h' tk' hs S' hT' f'
  cases flv <;> first | exact this | (cases fl <;> simp only [FlV] at f'; exact absurd rfl hf)
theorem sokT_nil {c : Cx} {fr : Frame} : SOkT c (execs [] c.env) fr .next fr := SOk.toT sok_nil

noncomputable abbrev lawCx (prog : Program) (w : World) (Pm : Params) (p : Program) (loose : List Str) (mean : ExcName → Option Value) (mg mb : Str → Option Value) (cn : Str) (cs : Scope) (L f : Addr) (ccd : Value) (cl : List (Str × Addr)) (names : List Str) (A₀ : Around) (base h₀ : Heap) : Cx :=
  Cx.mk prog w (hK Pm) p loose mean mg mb (fa 0) cn cs L f ccd cl names (callerA.deeper (envX cn cs L f ccd cl)) A₀ base h₀ []

section
variable {prog : Program} {w : World} {Pm : Params} {p : Program} {loose : List Str} {mean : ExcName → Option Value} {mg mb : Str → Option Value} {A₀ : Around} {s : Shared} {base h₀ : Heap} {L f : Addr} {m : Str → Option Value} {cn : Str} {cs : Scope} {ccd : Value} {cl : List (Str × Addr)} {names : List Str}

theorem pm_val {d : Nat} {fz ex : Led} {fr : Frame} {ps : Array Value} {ws : List Value} {cA cE cM : List Int} {b M wi size En : Int} {E Q : Value → Shared → Prop} (ok : CxOk (lawCx prog w Pm p loose mean mg mb cn cs L f ccd cl names A₀ base h₀) d)
    (S : FSt (lawCx prog w Pm p loose mean mg mb cn cs L f ccd cl names A₀ base h₀) s.heap m fz ((256, tabObj ps) :: ex) fr) (hT : TabOk ps fz) (hx : ∀ q ∈ ex, q.1 ≠ 256 ∧ q.2.cls ≠ .type "list") (CH : CodeHd base 260 256) (hno : ∀ (j : Nat) (sl : Slot), fr[j]? = some sl → sl.owned = false)
    (hv : Vals (fa 0) fz [vi cA, vi cE, vi cM, .int wi, .int size, .fn 29, .fn 35] ws)
    (hcA : Num (2 ^ wi.toNat) b cA ∧ Big b) (hcE : Num (2 ^ wi.toNat) En cE) (hcM : Num (2 ^ wi.toNat) M cM) (hE0 : 0 < En) (hE1 : En < 1000) (hM0 : 1 < M) (hM1 : M < 1000) (hw : 4 ≤ wi) (hw2 : wi ≤ 8) (hs1 : 1 ≤ size) (hs2 : size ≤ 10)
    (kk : ∀ cR rv fz' ps' h' tk', Num (2 ^ wi.toNat) (b ^ En.toNat % M) cR → (∀ p ∈ fz, p ∈ fz') → FSt (lawCx prog w Pm p loose mean mg mb cn cs L f ccd cl names A₀ base h₀) h' m fz' ((256, tabObj ps') :: ex) fr → TabOk ps' fz' → Val (fa 0) fz' (vi cR) rv → Q rv { s with heap := h', toks := tk' }) :
    wpAny (model prog w) (callerA.deeper (envX cn cs L f ccd cl)) (call (.ref 268) ws) Q E s := by
  refine Vals.consE hv fun _ _ v1 hv => Vals.consE hv fun _ _ v2 hv => Vals.consE hv fun _ _ v3 hv => Vals.consE hv fun _ _ v4 hv => Vals.consE hv fun _ _ v5 hv => Vals.consE hv fun _ _ v6 hv => Vals.consE hv fun _ _ v7 hv => Vals.nilE hv ?_
  refine Val.listE v1 fun a itsA iA hmA hvA => Val.listE v2 fun e itsE iE hmE hvE => Val.listE v3 fun mm itsM iM hmM hvM => Val.intE v4 fun t1 => Val.intE v5 fun t2 => Val.fnE v6 (Val.fnE v7 ?_)
  have hO : ∀ q, q ∉ ownEnts (lawCx prog w Pm p loose mean mg mb cn cs L f ccd cl names A₀ base h₀) s.heap m fr none := fun q hq => by
    obtain ⟨i, sl, x, _, e1, ho, _⟩ := mem_ownEnts hq
    rw [hno i sl e1] at ho; cases ho
  have hr : ∀ q ∈ fz ++ ex, q.1 ≠ 256 := fun q hq => by
    rcases List.mem_append.mp hq with hq | hq
    · exact S.dis q hq _ (.head _)
    · exact (hx q hq).1
  have mem : ∀ q ∈ fz ++ ex, q ∈ fz ++ ((256, tabObj ps) :: ex) := fun q hq => by
    rcases List.mem_append.mp hq with hq | hq
    · exact List.mem_append_left _ hq
    · exact List.mem_append_right _ (.tail _ hq)
  have NR : News h₀ L s.heap (fz ++ ex) := fun q hq => S.N q (mem q hq)
  have n256 := S.N (256, tabObj ps) (List.mem_append_right _ (.head _))
  have nA := S.N _ (List.mem_append_left _ hmA)
  have nE := S.N _ (List.mem_append_left _ hmE)
  have nM := S.N _ (List.mem_append_left _ hmM)
  have offX : ∀ {h' : Heap} {a' : Addr} {its' : List Value} {i' : Nat} {all : Led}, News h₀ L h' all → (a', PySem.W.listOf its'.toArray i') ∈ all → (∀ q ∈ ex, q ∈ all) → ∀ q ∈ ex, a' ≠ q.1 := fun {h' a' its' i' all} N hm hs q hq e => by
    have e1 := (N _ hm).1
    have e2 := (N _ (hs q hq)).1
    have e : a' = q.1 := e
    rw [e, e2] at e1
    cases q with | mk qa qo =>
    cases e1
    exact (hx _ hq).2 rfl
  rcases hT with rfl | ⟨c₁, oc₁, vs₁, t₁, rfl, hc₁, hd₁, hv₁⟩
  · refine c_pmod0 (iA := iA) (iE := iE) (iM := iM) (rest := fz ++ ex) ok.B S.F ok.X (fun q hq => ?_) hr ok.T ok.kind CH (hvA.ints (intsV_map cA)) (hvE.ints (intsV_map cE)) (hvM.ints (intsV_map cM)) hcA hcE hcM hE0 hE1 hM0 hM1 hw hw2 hs1 hs2 fun cR a' its' i' h' tk' cc oc vs t hR hIR F' N' hlt hcc hd hv => ?_
    · rcases List.mem_cons.mp hq with rfl | hq
      · exact nA
      rcases List.mem_cons.mp hq with rfl | hq
      · exact nE
      rcases List.mem_cons.mp hq with rfl | hq
      · exact nM
      rcases List.mem_cons.mp hq with rfl | hq
      · exact n256
      · exact NR q hq
    · have ha' := ne_tab N' (.head _) (.tail _ (.head _)) (by intro q; cases q)
      have hcc' : cc ≠ 256 := Nat.ne_of_gt hcc
      refine kk cR _ ((a', PySem.W.listOf its'.toArray i') :: (cc, oc) :: fz) (tab1 cc) h' tk' hR (fun q hq => .tail _ (.tail _ hq)) ?_ (.inr ⟨cc, oc, vs, t, rfl, .tail _ (.head _), hd, hv⟩) (.list (.head _) (Vals.ofInts hIR))
      refine S.rebuild2 (fun q hq => .tail _ (.tail _ hq)) hno F' (fun q hq => ?_) (fun q hq r hr' => ?_)
      · rcases List.mem_append.mp hq with hq | hq
        · rcases List.mem_cons.mp hq with rfl | hq
          · exact N' _ (.head _)
          rcases List.mem_cons.mp hq with rfl | hq
          · exact N' _ (.tail _ (.tail _ (.head _)))
          · exact N' _ (.tail _ (.tail _ (.tail _ (List.mem_append_left _ hq))))
        · rcases List.mem_cons.mp hq with rfl | hq
          · exact N' _ (.tail _ (.head _))
          · exact N' _ (.tail _ (.tail _ (.tail _ (List.mem_append_right _ hq))))
      · rcases List.mem_cons.mp hr' with rfl | hr'
        · rcases List.mem_cons.mp hq with rfl | hq
          · exact ha'
          rcases List.mem_cons.mp hq with rfl | hq
          · exact hcc'
          · exact hr q (List.mem_append_left _ hq)
        · rcases List.mem_cons.mp hq with rfl | hq
          · exact offX N' (.head _) (fun q hq => .tail _ (.tail _ (.tail _ (List.mem_append_right _ hq)))) r hr'
          rcases List.mem_cons.mp hq with rfl | hq
          · exact Ne.symm (Nat.ne_of_lt (hlt r (List.mem_append_right _ hr')))
          · exact S.dis q hq r (.tail _ hr')
  · refine c_pmod1 (iA := iA) (iE := iE) (iM := iM) (rest := fz ++ ex) ok.B S.F ok.X (fun q hq => ?_) hd₁ hv₁ hr (List.mem_append_left _ hc₁) ok.T ok.kind CH (hvA.ints (intsV_map cA)) (hvE.ints (intsV_map cE)) (hvM.ints (intsV_map cM)) hcA hcE hcM hE0 hE1 hM0 hM1 hw hw2 hs1 hs2 fun cR a' its' i' h' tk' hR hIR F' N' => ?_
    · rcases List.mem_cons.mp hq with rfl | hq
      · exact nA
      rcases List.mem_cons.mp hq with rfl | hq
      · exact nE
      rcases List.mem_cons.mp hq with rfl | hq
      · exact nM
      rcases List.mem_cons.mp hq with rfl | hq
      · exact S.N _ (List.mem_append_left _ hc₁)
      rcases List.mem_cons.mp hq with rfl | hq
      · exact n256
      · exact NR q hq
    · have ha' := ne_tab N' (.head _) (.tail _ (.head _)) (by intro q; cases q)
      refine kk cR _ ((a', PySem.W.listOf its'.toArray i') :: fz) (tab1 c₁) h' tk' hR (fun q hq => .tail _ hq) ?_ (.inr ⟨c₁, oc₁, vs₁, t₁, rfl, .tail _ hc₁, hd₁, hv₁⟩) (.list (.head _) (Vals.ofInts hIR))
      refine S.rebuild2 (fun q hq => .tail _ hq) hno F' (fun q hq => ?_) (fun q hq r hr' => ?_)
      · rcases List.mem_append.mp hq with hq | hq
        · rcases List.mem_cons.mp hq with rfl | hq
          · exact N' _ (.head _)
          · exact N' _ (.tail _ (.tail _ (List.mem_append_left _ hq)))
        · rcases List.mem_cons.mp hq with rfl | hq
          · exact N' _ (.tail _ (.head _))
          · exact N' _ (.tail _ (.tail _ (List.mem_append_right _ hq)))
      · rcases List.mem_cons.mp hr' with rfl | hr'
        · rcases List.mem_cons.mp hq with rfl | hq
          · exact ha'
          · exact S.dis q hq _ (.head _)
        · rcases List.mem_cons.mp hq with rfl | hq
          · exact offX N' (.head _) (fun q hq => .tail _ (.tail _ (List.mem_append_right _ hq))) r hr'
          · exact S.dis q hq r (.tail _ hr')
end
end Mine
end PLt

section PLu
set_option maxRecDepth 100000
open PySem PySem.W PySem.Spec PySem.Calls PyProof.Rows
namespace Mine
theorem one_of {its : Led} {a : Addr} (h : its.map (·.1) = [a]) : ∃ o, its = [(a, o)] := by
  cases its with
  | nil => cases h
  | cons q r =>
    cases r with
    | nil =>
      have h1 : q.1 = a := List.head_eq_of_cons_eq h
      exact ⟨q.2, by rw [← h1]⟩
    | cons _ _ => cases h
section
variable {c : Cx} {d : Nat} {Z : Led} {m : Str → Option Value} {fz fz' ex : Led} {fr fr' fr1 fr2 fr3 : Frame} {s : Shared} {x y z r : Str} {i : Nat}
theorem tok_or3 {a' b' d' : Expr} {pos : Pos} (ha : TOk c Z a' fr false fr1) (hb : TOk c Z b' fr1 false fr2) (hd : TOk c Z d' fr2 false fr3) : TOk c Z (.BoolOp .Or [a', b', d'] pos) fr false fr3 := by
  intro m fz ex s Q S hz k
  refine isTrue_or (ha m fz ex s _ S hz fun fz1 h1 t1 s1 S1 => ?_)
  refine isTrue_or (hb m fz1 ex _ _ S1 (fun q hq => s1 _ (hz q hq)) fun fz2 h2 t2 s2 S2 => ?_)
  refine isTrue_or (hd m fz2 ex _ _ S2 (fun q hq => s2 _ (s1 _ (hz q hq))) fun fz3 h3 t3 s3 S3 => ?_)
  exact isTrue_or_nil (k fz3 h3 t3 (fun p hp => s3 p (s2 p (s1 p hp))) S3)
theorem ok_cmpv {op : COp} {l' r' : Expr} {pos : Pos} {a b : V} {t : Bool} (ok : CxOk c d) (hl : VOk c Z l' fr a fr1) (hr : VOk c Z r' fr1 b fr2) (h : cmp op a b = some t) : VOk c Z (.Compare l' [op.op] [r'] pos) fr (.bool t) fr2 := by
  intro m fz ex s Q S hz k
  refine wpAny_Compare1 (hl m fz ex s _ S hz fun av fz1 h1 t1 s1 S1 v1 => hr m fz1 ex _ _ S1 (fun q hq => s1 _ (hz q hq)) fun bv fz2 h2 t2 s2 S2 v2 => ?_) (mark_no _ _)
  exact cmp_sound ok S2 h (v1.mono s2) v2 (k _ fz2 h2 _ (fun p hp => s2 p (s1 p hp)) S2 (.bool _))
theorem ok_and2 {a' b' : Expr} {pos : Pos} {t : Bool} (ha : VOk c Z a' fr (.bool true) fr1) (hb : VOk c Z b' fr1 (.bool t) fr2) : VOk c Z (.BoolOp .And [a', b'] pos) fr (.bool t) fr2 := by
  intro m fz ex s Q S hz k
  refine BoolOp_and (ha m fz ex s _ S hz fun av fz1 h1 t1 s1 S1 v1 => ?_)
  cases v1
  refine wpAny_truthy_bool ?_
  exact BoolOp_one (hb m fz1 ex _ _ S1 (fun q hq => s1 _ (hz q hq)) fun bv fz2 h2 t2 s2 S2 v2 => k bv fz2 h2 t2 (fun p hp => s2 p (s1 p hp)) S2 v2)
theorem FSt.forget {h : Heap} (S : FSt c h m fz ex (fr.set i (.val v))) (hi : fr[i]? = some .unset) : FSt c h m fz ex fr := by
  refine ⟨S.F, S.N, S.dis, fun j sl e => ?_, fun j k s t x y a b hjk e1 e2 h1 h2 => ?_⟩
  · by_cases hj : i = j
    · subst hj
      rw [hi] at e; cases e
      obtain ⟨x, hx, _⟩ := S.sl i (.val v) (by rw [List.getElem?_set_self (List.getElem?_eq_some_iff.mp hi).1])
      exact ⟨x, hx, trivial⟩
    · exact S.sl j sl (by rw [List.getElem?_set_ne hj]; exact e)
  · have hj : i ≠ j := fun q => by subst q; rw [hi] at e1; cases e1; cases h1
    have hk : i ≠ k := fun q => by subst q; rw [hi] at e2; cases e2; cases h2
    exact S.apart j k s t x y a b hjk (by rw [List.getElem?_set_ne hj]; exact e1) (by rw [List.getElem?_set_ne hk]; exact e2) h1 h2

set_option maxHeartbeats 1000000 in
noncomputable def LfI (c : Cx) (fz1 ex : Led) (fr1 : Frame) (s : Shared) (L0 a : Addr) (N : Nat) (k : Nat) (s' : Shared) : Prop :=
  ∀ G : Prop, (∀ h tk m' fz₁ ps₁ o j, s' = { s with heap := h, toks := tk } → (∀ p ∈ fz1, p ∈ fz₁) → FSt c h m' fz₁ ((L0, o) :: (256, tabObj ps₁) :: ex) fr1 → TabOk ps₁ fz₁ → h.IsListIter L0 a j → j ≤ N → k = N + 1 - j → G) → G
theorem sokT_for {e' : Expr} {body : List Stmt} {p pos : Pos} {vs : List Int} (ok : CxOk c d) (hi : fr1[i]? = some .unset) (hx : c.names[i]? = some x) (hl : c.cs.names.lookup x = some .local) (he : VOk c [] e' fr (vi vs) fr1) (hfold : ∀ v, foldedSetIterable e' c.env v = pure v) (hle : vs.length ≤ 1000)
    (hbody : ∀ v ∈ vs, SOkT c (execs body c.env) (fr1.set i (.val (.int v))) .next (fr1.set i (.val (.int v)))) : SOkT c (exec (.For (.Name x p) e' body [] pos) c.env) fr .next fr1 := by
  intro m fz ex ps s Q S hT hX k
  refine wpAny_For (he m fz _ s _ S (fun _ h => by simp at h) fun vv fz1 h1 t1 s1 S1 v1 => ?_) hfold
  refine Val.listE v1 fun a its n hm hv => ?_
  have hg := S1.ofFz hm
  have hL : h1.IsList a its.toArray := ⟨_, hg, rfl, n, rfl⟩
  refine wpAny_pyIter_list (s := { s with heap := h1, toks := t1 }) hL ?_
  obtain ⟨a1, a2, a3, a4, a5⟩ := S1.newAddr
  have hne : a ≠ h1.objs.size := Nat.ne_of_lt (Heap.lt_size hg)
  have W := Walks.list (prog := c.prog) (w := c.w) (A := c.A) ok.hh h1.objs.size a hne its.toArray
  have hil : its.length = vs.length := by have := hv.length; simpa using this
  have n256 := a4 (256, tabObj ps) (.head _)
  have S2 := (S1.push { cls := .type "list_iterator", data := .fields #[.ref a, .int 0 0] }).exAdd (Heap.get?_push_size _ rfl) a1 a2 a3 a5
  have hI0 : (h1.push { cls := .type "list_iterator", data := .fields #[.ref a, .int 0 0] }).IsListIter h1.objs.size a 0 := ⟨_, Heap.get?_push_size _ rfl, rfl, rfl⟩
  have hexi : ∀ q ∈ ex, q.1 ≠ h1.objs.size := fun q hq => a4 q (.tail _ hq)
  refine codeAny_forLoop_any (LfI c fz1 ex fr1 s h1.objs.size a vs.length) ?_ (vs.length + 1)
    (fun _ KK => KK _ t1 m fz1 ps _ 0 rfl (fun _ e => e) S2 (hT.mono s1) hI0 (Nat.zero_le _) rfl)
  intro kk s' hJ
  refine hJ _ fun h tk m' fz₁ ps₁ o j e hs S₁ hT₁ hI hj e2 => ?_
  subst e e2
  have hLh : h.IsList a its.toArray := ⟨_, S₁.ofFz (hs _ hm), rfl, n, rfl⟩
  have hex2 : ∀ q ∈ (256, tabObj ps₁) :: ex, q.1 ∉ [h1.objs.size] := fun q hq hb => by
    rcases List.mem_cons.mp hq with rfl | hq
    · exact n256 (List.mem_singleton.mp hb)
    · exact hexi q hq (List.mem_singleton.mp hb)
  by_cases hlt : j < vs.length
  · refine W.item j { s with heap := h, toks := tk } _ _ (by simpa [hil] using hlt) ⟨hI, hLh⟩ fun y h2 t2 hy st2 hk2 => ?_
    refine wpAny_pure ?_
    obtain ⟨o2, ho2, ho2c, ho2d⟩ := st2.1
    obtain ⟨its₂, hw₂, S₂⟩ := S₁.newIts (its := [(h1.objs.size, o)]) (wr := [h1.objs.size]) rfl hex2 hk2 (fun b hb => by rw [List.mem_singleton.mp hb]; exact ⟨o2, ho2⟩)
    obtain ⟨o', rfl⟩ := one_of hw₂
    have eo : o' = o2 := by
      have := (S₂.N (h1.objs.size, o') (List.mem_append_right _ (.head _))).1
      rw [ho2] at this; exact (Option.some.inj this).symm
    subst eo
    have hy' : its[j]? = some y := by simpa using hy
    obtain ⟨v', e1, e2⟩ := hv.at hy'
    obtain ⟨v1, hv1⟩ : ∃ v1, vs[j]? = some v1 := ⟨_, List.getElem?_eq_getElem hlt⟩
    rw [List.getElem?_map, hv1] at e1
    have e1 := (Option.some.inj e1).symm
    subst e1
    refine wpAny_assign_Name (store_sound (s := { s with heap := h2, toks := t2 }) (r := .val (.int v1)) ok S₂ hx hl (by unfold put; rw [hi]; rfl) (e2.mono hs) fun h3 hs3 S3 _ => ?_)
    have S4 : FSt c h3 _ fz₁ ((256, tabObj ps₁) :: (h1.objs.size, o') :: ex) (fr1.set i (.val (.int v1))) := S3.exSub fun q hq => by
      rcases List.mem_cons.mp hq with rfl | hq
      · exact .tail _ (.head _)
      rcases List.mem_cons.mp hq with rfl | hq
      · exact .head _
      · exact .tail _ (.tail _ hq)
    refine wpAny_mono (hbody v1 (List.mem_of_getElem? hv1) _ fz₁ ((h1.objs.size, o') :: ex) ps₁ { s with heap := h3, toks := t2 + 1 } (fun flv s4 => flv = .next ∧ LfI c fz1 ex fr1 s h1.objs.size a vs.length (vs.length + 1 - (j + 1)) s4) S4 hT₁ (fun q hq => ?_) fun flv m5 fz5 ps5 h5 t5 hs5 S5 hT5 f5 => ?_) (fun flv s4 q => ?_) (fun _ _ q => False.elim q)
    · rcases List.mem_cons.mp hq with rfl | hq
      · refine ⟨Ne.symm n256, fun q => ?_⟩
        have h9 : ("list_iterator" : String) = "list" := by injection ho2c.symm.trans q
        exact absurd h9 (by decide)
      · exact hX q hq
    · cases flv <;> simp only [FlV] at f5
      refine ⟨rfl, fun _ KK => KK h5 t5 m5 fz5 ps5 o' (j + 1) rfl (fun p hp => hs5 p (hs p hp)) ((S5.exSub fun q hq => ?_).forget hi) hT5 ?_ hlt rfl⟩
      · rcases List.mem_cons.mp hq with rfl | hq
        · exact .tail _ (.head _)
        rcases List.mem_cons.mp hq with rfl | hq
        · exact .head _
        · exact .tail _ (.tail _ hq)
      · exact ⟨o', (S5.N (h1.objs.size, o') (List.mem_append_right _ (.tail _ (.head _)))).1, ho2c, ho2d⟩
    · obtain ⟨rfl, q⟩ := q
      exact ⟨_, sdec hlt, q⟩
  · have hjn : j = vs.length := by omega
    subst hjn
    refine W.done { s with heap := h, toks := tk } _ _ (by simpa [hil] using And.intro hI hLh) fun h2 t2 hk2 => wpAny_execs_nil ?_
    refine k .next m' fz₁ ps₁ h2 t2 (fun q hq => hs q (s1 q hq)) ?_ hT₁ trivial
    refine (S₁.exSub (ex' := (256, tabObj ps₁) :: ex) fun q hq => .tail _ hq).keepOff hk2 (fun hb => ?_) (fun b hb => ?_) (fun q hq hb => ?_) hex2 (fun b hb => ?_)
    · exact a1 (List.mem_singleton.mp hb).symm
    · rw [List.mem_singleton.mp hb]; exact a2
    · exact S₁.dis q hq (h1.objs.size, o) (.head _) (List.mem_singleton.mp hb)
    · rw [List.mem_singleton.mp hb]; exact S₁.offEx (.head _)
end

section
variable {prog : Program} {w : World} {Pm : Params} {p : Program} {loose : List Str} {mean : ExcName → Option Value} {mg mb : Str → Option Value} {A₀ : Around} {s : Shared} {base h₀ : Heap} {L f : Addr} {m : Str → Option Value} {cn : Str} {cs : Scope} {ccd : Value} {cl : List (Str × Addr)} {names : List Str}

theorem sokT_ifpm {x : Str} {op : COp} {d : Nat} {fr fr1 : Frame} {e' : Expr} {es' : List Expr} {body : List Stmt} {p1 p2 p3 p4 p5 p6 : Pos} {k1 : Nat} {cA cE cM : List Int} {b M wi size En : Int} (ok : CxOk (lawCx prog w Pm p loose mean mg mb cn cs L f ccd cl names A₀ base h₀) d)
    (CH : CodeHd base 260 256) (hno : ∀ (j : Nat) (sl : Slot), fr1[j]? = some sl → sl.owned = false) (hg : nsIn (hK Pm) mainGlobals x = some (some (.ref 268))) (hl : cs.names.lookup x = some .globalImplicit) (hd : (x == ("__debug__" : Str)) = false) (hfn : ∀ h, (hK Pm).In h → FnAt 268 h)
    (ha : LOk (lawCx prog w Pm p loose mean mg mb cn cs L f ccd cl names A₀ base h₀) [] (e' :: es') fr [vi cA, vi cE, vi cM, .int wi, .int size, .fn 29, .fn 35] fr1) (hst : starEach (e' :: es') (envX cn cs L f ccd cl) = (false, eval e' (envX cn cs L f ccd cl)) :: starEach es' (envX cn cs L f ccd cl)) (hpl : (backTo p2 (starEach es' (envX cn cs L f ccd cl))).any (·.1) = false)
    (hcA : Num (2 ^ wi.toNat) b cA ∧ Big b) (hcE : Num (2 ^ wi.toNat) En cE) (hcM : Num (2 ^ wi.toNat) M cM) (hE0 : 0 < En) (hE1 : En < 1000) (hM0 : 1 < M) (hM1 : M < 1000) (hw : 4 ≤ wi) (hw2 : wi ≤ 8) (hs1 : 1 ≤ size) (hs2 : size ≤ 10)
    (hres : ∀ cR, Num (2 ^ wi.toNat) (b ^ En.toNat % M) cR → cmp op (vi cR) (vi [1]) = some false) :
    SOkT (lawCx prog w Pm p loose mean mg mb cn cs L f ccd cl names A₀ base h₀) (exec (.If (.Compare (.Call (.Name x p1) (e' :: es') [] p2) [op.op] [.List [.Constant (.int 1) k1 p3] p4] p5) body [] p6) (envX cn cs L f ccd cl)) fr .next fr1 := by
  intro m fz ex ps s Q S hT hX k
  have hlist : VOk (lawCx prog w Pm p loose mean mg mb cn cs L f ccd cl names A₀ base h₀) [] (.List [.Constant (.int 1) k1 p3] p4) fr1 (vi [1]) fr1 := (ok_list (lok_cons ok_int.v rfl lok_nil) (by decide)).v
  refine wpAny_If (wpAny_isTrue_Compare1 (call_shape ?_) (mark_no _ _))
  refine nameG_K (env := envX cn cs L f ccd cl) S.F ok.X (topRead_of ok.T) hg ?_ rfl ok.kind hl hd
  have fn : ∀ {fz ex h fr}, FSt (lawCx prog w Pm p loose mean mg mb cn cs L f ccd cl names A₀ base h₀) h m fz ex fr → FnAt 268 h := fun S => hfn _ (ok.X.keeps S.F.keep)
  refine callWith_F (fn S) (ha m fz _ s _ p2 S (fun _ h => by simp at h) fun xs fz2 h2 t2 s2 S2 v2 => ⟨fn S2, ?_⟩) hst hpl
  refine pm_val (E := NoE) ok S2 (hT.mono s2) hX CH hno v2 hcA hcE hcM hE0 hE1 hM0 hM1 hw hw2 hs1 hs2 fun cR rv fz3 ps3 h3 t3 hR s3 S3 hT3 v3 => ?_
  refine hlist m fz3 _ _ _ S3 (fun _ h => by simp at h) fun bv fz4 h4 t4 s4 S4 v4 => ?_
  refine cmp_sound ok S4 (hres cR hR) (v3.mono s4) v4 (wpAny_truthy_bool ?_)
  exact wpAny_execs_nil (k .next m fz4 ps3 h4 t4 (fun q hq => s4 q (s3 q (s2 q hq))) S4 (hT3.mono s4) trivial)
end
end Mine
end PLu

section PLw
set_option maxRecDepth 100000
open PySem PySem.W PySem.Spec PySem.Calls PyProof.Rows
namespace Mine
noncomputable def notIo : Slot → Bool
  | .io _ => false
  | _ => true
theorem noOwn {l : Frame} (h : (l.all fun s => !s.owned) = true) : ∀ (j : Nat) (sl : Slot), l[j]? = some sl → sl.owned = false := fun j sl e => by
  have := List.all_eq_true.mp h sl (List.mem_of_getElem? e)
  simpa using this
theorem noIo {l : Frame} (h : (l.all notIo) = true) : ∀ (i : Nat) (vs : List V), l[i]? ≠ some (.io vs) := fun i vs e => by
  have := List.all_eq_true.mp h _ (List.mem_of_getElem? e)
  cases this
theorem kIo {l l' : Frame} (h : (l.all notIo) = true) : KeepsIo l l' := fun i vs e => absurd e (noIo h i vs)
theorem cmp_eqi {a b : List Int} : cmp .eq (vi a) (vi b) = some (decide (a = b)) := by simp [cmp, intsV_map]
theorem cmp_nei {a b : List Int} : cmp .ne (vi a) (vi b) = some (!decide (a = b)) := by simp [cmp, intsV_map]

section
variable {c : Cx} {d : Nat} {Z : Led} {m : Str → Option Value} {fz fz' ex ex' : Led} {fr fr' fr1 fr2 fr3 : Frame} {s : Shared} {x y z r : Str} {i : Nat}
theorem FSt.setCell {h h' : Heap} {cz : Addr} {o' : Obj} {v : V} {vv : Value} (ok : CxOk c d) (S : FSt c h m fz ex fr) (hno : ∀ (j : Nat) (sl : Slot), fr[j]? = some sl → sl.owned = false) (hi : i < fr.length) (hx : c.names[i]? = some z) (hz : c.cs.names.lookup z = some .cell) (hcl : c.cl.lookup z = some cz)
    (F : Fr c.h₀ c.L h' m) (N : News c.h₀ c.L h' (((cz, o') :: fz) ++ ex')) (dis : ∀ q ∈ (cz, o') :: fz, ∀ r ∈ ex', q.1 ≠ r.1) (ho : o'.data = .cell (some vv)) (hv : Val c.fa ((cz, o') :: fz) v vv) : FSt c h' m ((cz, o') :: fz) ex' (fr.set i (.val v)) := by
  refine ⟨F, N, dis, fun j t et => ?_, fun j k2 t u y z b b' hjk et eu ht hu hy hz hb hb' => ?_⟩
  · by_cases hj : i = j
    · subst hj
      rw [List.getElem?_set_self hi] at et
      cases et
      exact ⟨z, hx, vv, .inr ⟨.inr hz, cz, o', hcl, .head _, ho⟩, hv⟩
    · rw [List.getElem?_set_ne hj] at et
      obtain ⟨y, hy, y'⟩ := S.sl j t et
      refine ⟨y, hy, ?_⟩
      have h1 := hno j t et
      cases t with
      | unset => trivial
      | val v => obtain ⟨w, l, v'⟩ := y'; exact ⟨w, l.mono fun _ => .tail _, v'.mono fun _ => .tail _⟩
      | own us => cases h1
      | io us => cases h1
  · exfalso
    by_cases hj : i = j
    · subst hj
      rw [List.getElem?_set_self hi] at et
      cases et; cases ht
    · rw [List.getElem?_set_ne hj] at et
      rw [hno j t et] at ht; cases ht

theorem st_cell {e' : Expr} {q pos : Pos} {n : Int} {cz : Addr} {om : Obj} {v0 : Option Value} {ps : Array Value} {Q : Flow → Shared → Prop} (ok : CxOk c d) (hz : c.cs.names.lookup z = some .cell) (hcl : c.cl.lookup z = some cz) (hi : c.names[i]? = some z) (hil : i < fr.length) (hno : ∀ (j : Nat) (sl : Slot), fr[j]? = some sl → sl.owned = false)
    (he : VOk c [] e' fr (.int n) fr) (hsw : swapsWith e' (some (.Name z q)) pos.line c.env = pure false) (S : FSt c s.heap m fz [(256, tabObj ps), (cz, om)] fr) (hom : om.data = .cell v0) (hc : cz ≠ 256)
    (k : ∀ fz' h' tk', (∀ p ∈ fz, p ∈ fz') → FSt c h' m fz' [(256, tabObj ps)] (fr.set i (.val (.int n))) → Q .next { s with heap := h', toks := tk' }) :
    wpAny (model c.prog c.w) c.A (exec (.Assign [.Name z q] e' pos) c.env) Q NoE s := by
  refine wpAny_Assign_Name (he m fz _ s _ S (fun _ h => by simp at h) fun vv fz1 h1 t1 s1 S1 v1 => ?_) hsw
  refine Val.intE v1 fun t => ?_
  have N1 : News c.h₀ c.L h1 ((cz, om) :: (fz1 ++ [(256, tabObj ps)])) := fun q hq => by
    rcases List.mem_cons.mp hq with rfl | hq
    · exact S1.N _ (List.mem_append_right _ (.tail _ (.head _)))
    rcases List.mem_append.mp hq with hq | hq
    · exact S1.N _ (List.mem_append_left _ hq)
    · rw [List.mem_singleton.mp hq]; exact S1.N _ (List.mem_append_right _ (.head _))
  have hne : ∀ q ∈ fz1 ++ [(256, tabObj ps)], q.1 ≠ cz := fun q hq => by
    rcases List.mem_append.mp hq with hq | hq
    · exact S1.dis q hq _ (.tail _ (.head _))
    · rw [List.mem_singleton.mp hq]; exact Ne.symm hc
  refine storeX_C (s := { s with heap := h1, toks := t1 }) (cn := c.cn) (cs := c.cs) (L := c.L) (a := c.f) (ccd := c.ccd) (cl := c.cl) S1.F N1 hcl (.head hne) hom (fun h' o' F' N' ho' => ?_) ok.kind hz
  refine k ((cz, o') :: fz1) h' _ (fun q hq => .tail _ (s1 q hq)) (S1.setCell ok hno hil hi hz hcl F' (by simpa using N') (fun q hq r hr => ?_) ho' (.int _ _))
  rw [List.mem_singleton.mp hr]
  rcases List.mem_cons.mp hq with rfl | hq
  · exact hc
  · exact S1.dis q hq _ (.head _)
end
end Mine
end PLw

section PLx
set_option maxRecDepth 100000
open PySem PySem.W PySem.Spec PySem.Calls PyProof.Rows
namespace Mine
theorem num_one {w : Nat} {n : Int} {c : List Int} (hw : W w) (h : Num (2 ^ w) n c) : c = [1] ↔ n = 1 := by
  have hB := hw.two
  constructor
  · intro e
    subst e
    have := h.val
    simp [val] at this
    exact this.symm
  · intro e
    subst e
    exact h.inj (by omega) (one_num hw)

section
variable {prog : Program} {w : World} {Pm : Params} {p : Program} {loose : List Str} {mean : ExcName → Option Value} {mg mb : Str → Option Value} {A₀ : Around} {s : Shared} {base h₀ : Heap} {L f : Addr} {m : Str → Option Value} {cn : Str} {cs : Scope} {ccd : Value} {cl : List (Str × Addr)}

set_option maxHeartbeats 4000000 in
theorem law_rest {n0 n1 n2 n3 n4 n5 n6 n7 n8 n9 n10 n11 n12 n13 nPm nLn nFd nMs x1 x2 x3 y3 : Str} {st1 st3 st4 st9 : Stmt} {e2 e7 e10 e11a e11b e11c e11d e11e b1 b2 b3 b8 a6 a7 : Expr} {as6 as7 : List Expr} {bd5 bd6 bd7 : List Stmt} {sc1 sc2 sc3 : Scope} {clz1 clz2 clz3 : List (Str × Addr)}
    {q1 q2 q3 q4 q5 q6 q7 q8 q9 q10 q11 q12 q13 q14 q15 q16 q17 q18 q19 q20 q21 q22 q23 q24 q25 q26 q27 q28 q29 q30 q31 q32 q33 q34 q35 q36 q37 q38 q39 q40 q41 q42 q43 q44 q45 q46 q47 q48 q49 q50 q51 q52 q53 q54 q55 q56 q57 q58 : Pos} {k1 k2 k3 k4 k5 : Nat}
    {wn : Nat} {b pr le : Int} {fz : Led} {cm : Addr} {om : Obj} {v0 : Option Value} {Q : Flow → Shared → Prop}
    (ok : CxOk (lawCx prog w Pm p loose mean mg mb cn cs L f ccd cl [n0, n1, n2, n3, n4, n5, n6, n7, n8, n9, n10, n11, n12, n13] A₀ base h₀) 40) (CH : CodeHd base 260 256)
    (t1 : TS (hK Pm) (fa 0) cs [n0, n1, n2, n3, n4, n5, n6, n7, n8, n9, n10, n11, n12, n13] L1 st1)
    (t2 : TE (hK Pm) (fa 0) cs [n0, n1, n2, n3, n4, n5, n6, n7, n8, n9, n10, n11, n12, n13] L2e e2)
    (t3 : TS (hK Pm) (fa 0) cs [n0, n1, n2, n3, n4, n5, n6, n7, n8, n9, n10, n11, n12, n13] L3 st3)
    (t4 : TS (hK Pm) (fa 0) cs [n0, n1, n2, n3, n4, n5, n6, n7, n8, n9, n10, n11, n12, n13] L4 st4)
    (t5a : TB (hK Pm) (fa 0) cs [n0, n1, n2, n3, n4, n5, n6, n7, n8, n9, n10, n11, n12, n13] L5a b1)
    (t5b : TB (hK Pm) (fa 0) cs [n0, n1, n2, n3, n4, n5, n6, n7, n8, n9, n10, n11, n12, n13] L5b b2)
    (t5c : TB (hK Pm) (fa 0) cs [n0, n1, n2, n3, n4, n5, n6, n7, n8, n9, n10, n11, n12, n13] L5c b3)
    (t6 : TEs (hK Pm) (fa 0) cs [n0, n1, n2, n3, n4, n5, n6, n7, n8, n9, n10, n11, n12, n13] L6 (a6 :: as6))
    (t7 : TEs (hK Pm) (fa 0) cs [n0, n1, n2, n3, n4, n5, n6, n7, n8, n9, n10, n11, n12, n13] L7 (a7 :: as7))
    (t7t : TE (hK Pm) (fa 0) cs [n0, n1, n2, n3, n4, n5, n6, n7, n8, n9, n10, n11, n12, n13] L7t e7)
    (t8 : TB (hK Pm) (fa 0) cs [n0, n1, n2, n3, n4, n5, n6, n7, n8, n9, n10, n11, n12, n13] L8 b8)
    (t9 : TS (hK Pm) (fa 0) cs [n0, n1, n2, n3, n4, n5, n6, n7, n8, n9, n10, n11, n12, n13] L9 st9)
    (t10 : TE (hK Pm) (fa 0) cs [n0, n1, n2, n3, n4, n5, n6, n7, n8, n9, n10, n11, n12, n13] (.var 7) e10)
    (t11a : TE (hK Pm) (fa 0) cs [n0, n1, n2, n3, n4, n5, n6, n7, n8, n9, n10, n11, n12, n13] (.idxv 7 (.int 0)) e11a)
    (t11b : TE (hK Pm) (fa 0) cs [n0, n1, n2, n3, n4, n5, n6, n7, n8, n9, n10, n11, n12, n13] (.idxv 7 (.int 1)) e11b)
    (t11c : TE (hK Pm) (fa 0) cs [n0, n1, n2, n3, n4, n5, n6, n7, n8, n9, n10, n11, n12, n13] L11c e11c)
    (t11d : TE (hK Pm) (fa 0) cs [n0, n1, n2, n3, n4, n5, n6, n7, n8, n9, n10, n11, n12, n13] (.var 8) e11d)
    (t11e : TE (hK Pm) (fa 0) cs [n0, n1, n2, n3, n4, n5, n6, n7, n8, n9, n10, n11, n12, n13] L11e e11e)
    (z10 : cs.names.lookup n10 = some .cell) (z11 : cs.names.lookup n11 = some .cell) (z12 : cs.names.lookup n12 = some .cell) (z13 : cs.names.lookup n13 = some .cell) (l6 : cs.names.lookup n6 = some .local) (l8 : cs.names.lookup n8 = some .local) (hcl13 : cl.lookup n13 = some cm)
    (sw2 : swapsWith e2 (some (.Name n13 q1)) q2.line (envX cn cs L f ccd cl) = pure false)
    (gPm : nsIn (hK Pm) mainGlobals nPm = some (some (.ref 268))) (lPm : cs.names.lookup nPm = some .globalImplicit) (dPm : (nPm == ("__debug__" : Str)) = false) (fnPm : ∀ h, (hK Pm).In h → FnAt 268 h) (fnLn : ∀ h, (hK Pm).In h → FnAt 336 h)
    (c1c : closureFor sc1 (envX cn cs L f ccd cl) = pure clz1) (c1l : clz1.lookup n13 = cl.lookup n13) (c1n : ∀ y ∈ sc1.names, y.2 ≠ .cell) (c1k : sc1.kind = .function) (c1m : ∀ y ∈ sc1.names, y.2 = .local → sc1.names.lookup y.1 = some .local) (c1x : sc1.names.lookup x1 = some .local) (d1x : (x1 == ("__debug__" : Str)) = false) (d13 : (n13 == ("__debug__" : Str)) = false)
    (c1z : ∀ C, (compEnvC sc1 clz1 C (envX cn cs L f ccd cl)).kindOf n13 = some .cell) (c1f : ∀ v, foldedSetIterable e7 (envX cn cs L f ccd cl) v = pure v)
    (c2c : closureFor sc2 (envX cn cs L f ccd cl) = pure clz2) (c2lb : clz2.lookup n11 = cl.lookup n11) (c2lw : clz2.lookup n10 = cl.lookup n10) (c2ll : clz2.lookup n12 = cl.lookup n12) (c2n : ∀ y ∈ sc2.names, y.2 ≠ .cell) (c2k : sc2.kind = .function) (c2m : ∀ y ∈ sc2.names, y.2 = .local → sc2.names.lookup y.1 = some .local) (c2x : sc2.names.lookup x2 = some .local)
    (c2b : ∀ C, (compEnvC sc2 clz2 C (envX cn cs L f ccd cl)).kindOf n11 = some .cell) (c2w : ∀ C, (compEnvC sc2 clz2 C (envX cn cs L f ccd cl)).kindOf n10 = some .cell) (c2e : ∀ C, (compEnvC sc2 clz2 C (envX cn cs L f ccd cl)).kindOf n12 = some .cell)
    (c2f : ∀ C, (compEnvC sc2 clz2 C (envX cn cs L f ccd cl)).kindOf nLn = some .globalImplicit) (c2g : ∀ C, (compEnvC sc2 clz2 C (envX cn cs L f ccd cl)).kindOf nFd = some .globalImplicit) (c2s : ∀ C, (compEnvC sc2 clz2 C (envX cn cs L f ccd cl)).kindOf nMs = some .globalImplicit)
    (gLn : nsIn (hK Pm) mainGlobals nLn = some (some (.ref 336))) (gFd : nsIn (hK Pm) mainGlobals nFd = some (some (.ref (fa 0 22)))) (gMs : nsIn (hK Pm) mainGlobals nMs = some (some (.ref (fa 0 29))))
    (d2x : (x2 == ("__debug__" : Str)) = false) (d11 : (n11 == ("__debug__" : Str)) = false) (d10 : (n10 == ("__debug__" : Str)) = false) (d12 : (n12 == ("__debug__" : Str)) = false) (dLn : (nLn == ("__debug__" : Str)) = false) (dFd : (nFd == ("__debug__" : Str)) = false) (dMs : (nMs == ("__debug__" : Str)) = false)
    (c2h : ∀ v, foldedSetIterable e10 (envX cn cs L f ccd cl) v = pure v)
    (sw10 : swapsWith (.ListComp (.Call (.Name nLn q34) [.Call (.Name nFd q35) [.Name x2 q36, .Name n11 q37, .Name n10 q38, .Name n12 q39, .Name nMs q40] [] q41, .Name n10 q42] [] q43) [⟨.Name x2 q44, e10, [], 0⟩] sc2 q45) (some (.Name n8 q46)) q47.line (envX cn cs L f ccd cl) = pure true)
    (bz : BName (hK Pm) cs (Str.ofString "zip")) (bs : BName (hK Pm) cs (Str.ofString "sum"))
    (c3c : closureFor sc3 (envX cn cs L f ccd cl) = pure clz3) (c3n : ∀ y ∈ sc3.names, y.2 ≠ .cell) (c3k : sc3.kind = .function) (c3m : ∀ y ∈ sc3.names, y.2 = .local → sc3.names.lookup y.1 = some .local) (c3x : sc3.names.lookup x3 = some .local) (c3y : sc3.names.lookup y3 = some .local) (c3xy : x3 ≠ y3) (d3x : (x3 == ("__debug__" : Str)) = false) (d3y : (y3 == ("__debug__" : Str)) = false)
    (hb2 : 2 ≤ b) (hb13 : b ≤ 13) (hpr : pr ∈ psL) (hbp : b % pr ≠ 0) (hw4 : 4 ≤ wn) (hw8 : wn ≤ 8)
    (S0 : FSt (lawCx prog w Pm p loose mean mg mb cn cs L f ccd cl [n0, n1, n2, n3, n4, n5, n6, n7, n8, n9, n10, n11, n12, n13] A₀ base h₀) s.heap m fz [(256, tabObj #[]), (cm, om)] (lfr .unset .unset .unset .unset .unset .unset .unset .unset .unset pr wn b le .unset)) (hom : om.data = .cell v0) (hcm : cm ≠ 256)
    (k : ∀ h' tk' m' ps', Fr h₀ L h' m' → News h₀ L h' [(256, tabObj ps')] → Q (.ret (.bool true)) { s with heap := h', toks := tk' }) :
    wpAny (model prog w) (callerA.deeper (envX cn cs L f ccd cl)) (execs [st1, .Assign [.Name n13 q1] e2 q2, st3, st4, .If (.BoolOp .Or [b1, b2, b3] q3) bd5 [] q4,
      .If (.Compare (.Call (.Name nPm q5) (a6 :: as6) [] q6) [.NotEq] [.List [.Constant (.int 1) k1 q7] q8] q9) bd6 [] q10,
      .For (.Name n6 q11) (.ListComp (.Name x1 q12) [⟨.Name x1 q13, e7, [.Compare (.BinOp (.Name n13 q14) .Mod (.Name x1 q15) q16) [.Eq] [.Constant (.int 0) k2 q17] q18], 0⟩] sc1 q19) [.If (.Compare (.Call (.Name nPm q20) (a7 :: as7) [] q21) [.Eq] [.List [.Constant (.int 1) k3 q22] q23] q24) bd7 [] q25] [] q26,
      .If b8 [.Return (some (.Constant (.bool true) k4 q27)) q28] [] q29, st9,
      .Assign [.Name n8 q46] (.ListComp (.Call (.Name nLn q34) [.Call (.Name nFd q35) [.Name x2 q36, .Name n11 q37, .Name n10 q38, .Name n12 q39, .Name nMs q40] [] q41, .Name n10 q42] [] q43) [⟨.Name x2 q44, e10, [], 0⟩] sc2 q45) q47,
      .Return (some (.BoolOp .And [.Compare (.ListComp (.BinOp (.Name x3 q48) .Add (.Name y3 q49) q50) [⟨.Tuple [.Name x3 q51, .Name y3 q52] k5 q53, .Call (.Name (Str.ofString "zip") q54) [e11a, e11b] [] q55, [], 0⟩] sc3 q56) [.Eq] [e11c] q57, .Compare (.Call (.Name (Str.ofString "sum") q30) [e11d] [] q31) [.Eq] [e11e] q32] q33)) q58] (envX cn cs L f ccd cl)) Q NoE s := by
  refine hide fun GG hGG => ?_
  have hC := callSound (prog := prog) (w := w) (p := p) (loose := loose) (mean := mean) (mg := mg) (mb := mb) (TT_ok 0 Pm []) 40
  have hW : W wn := ⟨by omega, by omega⟩
  have hpb := ps_bd hpr
  obtain ⟨due, hdv, hck⟩ := ck_of hb2 hb13 hpr hbp
  have K := CkF.of hck
  have m0 := K.m0
  have m1 := K.m1
  have hbig : Big (b ^ due.length) := big_pow hb2 hb13 m1
  obtain ⟨row, prime, ex1, hrow, hprime⟩ := ev1 (le := le) hW hw4 hb2 hb13 (by omega) (by omega) hdv
  obtain ⟨whole, ex3, hwh⟩ := ev3 (le := le) hW hb2 (by omega) (by omega) K hrow hprime hbig
  obtain ⟨fd, ex4, hfd⟩ := ev4 (le := le) (row := row) (prime := prime) hW hw4 hb2 hb13 K (by omega) hwh hbig
  obtain ⟨hfl, hpad⟩ := pad_due (by omega) K.dig K.val hfd
  refine hGG (wpAny_execs_cons (soundS ok hC L1 t1 ex1 m fz _ s _ S0 (fun _ h => by simp at h) fun flv m' fz1 h1 tk1 s1 S1 _ f1 => ?_))
  cases flv <;> simp only [FlV] at f1
  have ok2 := (soundE ok hC L2e t2 (ev2 (w := wn) (b := b) (p := pr) (le := le) (due := due) (s1 := .val (vi row)) (s2 := .val (vi prime)) (a1 := .unset) (a2 := .unset) (a3 := .unset) (a4 := .unset) (a5 := .unset) (a6 := .unset) (by unfold lenLim; omega))).v
  refine wpAny_execs_cons (st_cell (s := { s with heap := h1, toks := tk1 }) (i := 13) ok z13 hcl13 rfl (by unfold lfr; simp) (noOwn rfl) ok2 sw2 S1 hom hcm fun fz2 h2 tk2 s2 S2 => ?_)
  refine hide fun G2 hG2 => ?_
  have h3 := SOk.toT (soundS ok hC L3 t3 ex3)
  have h4 := SOk.toT (soundS ok hC L4 t4 ex4)
  have h5 : SOkT (lawCx prog w Pm p loose mean mg mb cn cs L f ccd cl [n0, n1, n2, n3, n4, n5, n6, n7, n8, n9, n10, n11, n12, n13] A₀ base h₀) (exec (.If (.BoolOp .Or [b1, b2, b3] q3) bd5 [] q4) (envX cn cs L f ccd cl)) _ .next _ :=
    SOk.toT (sok_ite (b := false) (tok_or3 (soundB ok hC L5a t5a (ev5a (w := wn) (b := b) (p := pr) (le := le) (due := due) (row := row) (prime := prime) (a3 := .val (vi whole)) (s5 := .val (vi (List.reverse fd))) (s6 := .unset) (s7 := .unset) (s8 := .unset))) (soundB ok hC L5b t5b (ev5b m1 hfl hpad)) (soundB ok hC L5c t5c (ev5c K))) (KeepsIo.refl _) sok_nil)
  have hbb : Big b := by have := big_pow hb2 hb13 (show 1 < 20 by omega); rwa [Int.pow_succ, Int.pow_zero, Int.one_mul] at this
  obtain ⟨rs6, ex6, ce6, hrs6, hce6⟩ := ev6 (w := wn) (b := b) (p := pr) (le := le) (due := due) (row := row) (prime := prime) (a3 := .val (vi whole)) (a4 := .val (vi [])) (s5 := .val (vi (List.reverse fd))) (s6 := .unset) (s7 := .unset) (s8 := .unset) hW m1
  have l6' := soundEs ok hC L6 t6 ex6
  rw [hrs6] at l6'
  have st6 : starEach (a6 :: as6) (envX cn cs L f ccd cl) = (false, eval a6 (envX cn cs L f ccd cl)) :: starEach as6 (envX cn cs L f ccd cl) ∧ (backTo q6 (starEach as6 (envX cn cs L f ccd cl))).any (·.1) = false :=
    ⟨(t6.pl _ (.head _)).star _ _, plains (fun z hz => t6.pl z (.tail _ hz)) _ _⟩
  have h6 := sokT_ifpm (op := .ne) (p1 := q5) (p3 := q7) (p4 := q8) (p5 := q9) (p6 := q10) (k1 := k1) (body := bd6) (wi := (wn : Int)) (b := b) (M := pr) (En := (due.length : Int)) (size := 2) ok CH (noOwn rfl) gPm lPm dPm fnPm l6' st6.1 st6.2 ⟨hrow, hbb⟩ hce6 hprime (by omega) (by omega) (by omega) (by omega) (by omega) (by omega) (by omega) (by omega) (fun cR hR => by
    have e1 : b ^ ((due.length : Int)).toNat % pr = 1 := by rw [Int.toNat_natCast, ← emod_pow]; exact K.pw
    rw [e1] at hR
    rw [cmp_nei, (num_one hW hR).mpr rfl]; rfl)
  have h7c := ok_comp_tst (c := lawCx prog w Pm p loose mean mg mb cn cs L f ccd cl [n0, n1, n2, n3, n4, n5, n6, n7, n8, n9, n10, n11, n12, n13] A₀ base h₀) (Z := []) (p1 := q12) (p2 := q13) (p3 := q14) (p4 := q15) (p5 := q16) (p6 := q17) (p7 := q18) (pos := q19) (kz := k2) (j := 13) (n := (due.length : Int)) ok
    (soundE ok hC L7t t7t (ev7t (fr := lfr (.val (vi due)) (.val (vi row)) (.val (vi prime)) (.val (vi whole)) (.val (vi [])) (.val (vi (List.reverse fd))) .unset .unset .unset pr wn b le (.val (.int due.length))))).v rfl rfl z13 c1f c1c c1l c1n c1k c1m c1x d1x d13 c1z (by decide) (by decide)
  have st7 : starEach (a7 :: as7) (envX cn cs L f ccd cl) = (false, eval a7 (envX cn cs L f ccd cl)) :: starEach as7 (envX cn cs L f ccd cl) ∧ (backTo q21 (starEach as7 (envX cn cs L f ccd cl))).any (·.1) = false :=
    ⟨(t7.pl _ (.head _)).star _ _, plains (fun z hz => t7.pl z (.tail _ hz)) _ _⟩
  have h7 := sokT_for (i := 6) (x := n6) (p := q11) (pos := q26) (body := [.If (.Compare (.Call (.Name nPm q20) (a7 :: as7) [] q21) [.Eq] [.List [.Constant (.int 1) k3 q22] q23] q24) bd7 [] q25]) ok rfl rfl l6 h7c.v (fun _ => rfl) (Nat.le_trans (List.length_filter_le _ _) (by decide)) (fun v hv => by
    obtain ⟨hv1, hv2⟩ := List.mem_filter.mp hv
    have hv2 : (due.length : Int) % v = 0 := by simpa using hv2
    have hv3 : v = 2 ∨ v = 3 ∨ v = 5 := by simpa using hv1
    obtain ⟨rs7, ex7, ce7, hrs7, hce7⟩ := ev7 (w := wn) (b := b) (p := pr) (le := le) (due := due) (row := row) (prime := prime) (a3 := .val (vi whole)) (a4 := .val (vi [])) (s5 := .val (vi (List.reverse fd))) (s7 := .unset) (s8 := .unset) (k := v) hW m1 (by omega) (by omega)
    have l7' := soundEs ok hC L7 t7 ex7
    rw [hrs7] at l7'
    have hE : 0 < (due.length : Int) / v ∧ (due.length : Int) / v < 1000 := by rcases hv3 with rfl | rfl | rfl <;> omega
    refine sokT_cons (sokT_ifpm (op := .eq) (p1 := q20) (p3 := q22) (p4 := q23) (p5 := q24) (p6 := q25) (k1 := k3) (body := bd7) (wi := (wn : Int)) (b := b) (M := pr) (En := (due.length : Int) / v) (size := 1) ok CH (noOwn rfl) gPm lPm dPm fnPm l7' st7.1 st7.2 ⟨hrow, hbb⟩ hce7 hprime hE.1 hE.2 (by omega) (by omega) (by omega) (by omega) (by omega) (by omega) (fun cR hR => ?_)) sokT_nil
    have hne : b ^ ((due.length : Int) / v).toNat % pr ≠ 1 := by
      rw [← emod_pow]
      rcases hv3 with rfl | rfl | rfl
      · rw [show ((due.length : Int) / 2).toNat = due.length / 2 from by omega]; exact K.p2 (by omega)
      · rw [show ((due.length : Int) / 3).toNat = due.length / 3 from by omega]; exact K.p3 (by omega)
      · rw [show ((due.length : Int) / 5).toNat = due.length / 5 from by omega]; exact K.p5 (by omega)
    rw [cmp_eqi]
    congr 1
    exact decide_eq_false fun q => hne ((num_one hW hR).mp q))
  have t8' := soundB ok hC L8 t8 (ev8 (w := wn) (b := b) (p := pr) (le := le) (due := due) (row := row) (prime := prime) (a3 := .val (vi whole)) (a4 := .val (vi [])) (s5 := .val (vi (List.reverse fd))) (s6 := .unset) (s7 := .unset) (s8 := .unset))
  have hbool : ∀ fr, VOk (lawCx prog w Pm p loose mean mg mb cn cs L f ccd cl [n0, n1, n2, n3, n4, n5, n6, n7, n8, n9, n10, n11, n12, n13] A₀ base h₀) [] (.Constant (.bool true) k4 q27) fr (.bool true) fr := fun fr m fz ex s Q S hz k => wpAny_Constant_bool (k _ fz s.heap _ (fun _ e => e) S (.bool true))
  have fin : ∀ {frf : Frame}, SOkT (lawCx prog w Pm p loose mean mg mb cn cs L f ccd cl [n0, n1, n2, n3, n4, n5, n6, n7, n8, n9, n10, n11, n12, n13] A₀ base h₀) (execs [st3, st4, .If (.BoolOp .Or [b1, b2, b3] q3) bd5 [] q4,
      .If (.Compare (.Call (.Name nPm q5) (a6 :: as6) [] q6) [.NotEq] [.List [.Constant (.int 1) k1 q7] q8] q9) bd6 [] q10,
      .For (.Name n6 q11) (.ListComp (.Name x1 q12) [⟨.Name x1 q13, e7, [.Compare (.BinOp (.Name n13 q14) .Mod (.Name x1 q15) q16) [.Eq] [.Constant (.int 0) k2 q17] q18], 0⟩] sc1 q19) [.If (.Compare (.Call (.Name nPm q20) (a7 :: as7) [] q21) [.Eq] [.List [.Constant (.int 1) k3 q22] q23] q24) bd7 [] q25] [] q26,
      .If b8 [.Return (some (.Constant (.bool true) k4 q27)) q28] [] q29, st9,
      .Assign [.Name n8 q46] (.ListComp (.Call (.Name nLn q34) [.Call (.Name nFd q35) [.Name x2 q36, .Name n11 q37, .Name n10 q38, .Name n12 q39, .Name nMs q40] [] q41, .Name n10 q42] [] q43) [⟨.Name x2 q44, e10, [], 0⟩] sc2 q45) q47,
      .Return (some (.BoolOp .And [.Compare (.ListComp (.BinOp (.Name x3 q48) .Add (.Name y3 q49) q50) [⟨.Tuple [.Name x3 q51, .Name y3 q52] k5 q53, .Call (.Name (Str.ofString "zip") q54) [e11a, e11b] [] q55, [], 0⟩] sc3 q56) [.Eq] [e11c] q57, .Compare (.Call (.Name (Str.ofString "sum") q30) [e11d] [] q31) [.Eq] [e11e] q32] q33)) q58] (envX cn cs L f ccd cl)) (lfr (.val (vi due)) (.val (vi row)) (.val (vi prime)) .unset .unset .unset .unset .unset .unset pr wn b le (.val (.int due.length))) (.ret (.bool true)) frf → G2 := fun {frf} h => hG2 (by
    refine h m' fz2 [] #[] { s with heap := h2, toks := tk2 } Q S2 (.inl rfl) (fun _ h => by simp at h) fun flv m4 fz4 ps4 h4 tk4 s4 S4 _ f4 => ?_
    cases flv <;> simp only [FlV] at f4
    cases f4
    exact k h4 tk4 m4 ps4 S4.F fun q hq => S4.N q (List.mem_append_right _ hq))
  by_cases hpar : due.length % 2 = 1
  · rw [decide_eq_true hpar] at t8'
    exact fin (sokT_cons h3 (sokT_cons h4 (sokT_cons h5 (sokT_cons h6 (sokT_cons h7 (sokT_stop (SOk.toT (sok_ite (b := true) t8' (KeepsIo.refl _) (sok_stop (sok_ret (hbool _) (KeepsIo.refl _)) (by intro q; cases q)))) (by intro q; cases q)))))))
  · rw [decide_eq_false hpar] at t8'
    have hev : due.length % 2 = 0 := by omega
    obtain ⟨hz, hsum⟩ := K.half hev
    have h9 := SOk.toT (soundS ok hC L9 t9 (ev9 (w := wn) (b := b) (p := pr) (le := le) (due := due) (row := row) (prime := prime) (a3 := .val (vi whole)) (a4 := .val (vi [])) (s5 := .val (vi (List.reverse fd))) (s6 := .unset) (s8 := .unset) m1))
    have hx : (due.take (due.length / 2)).length = due.length / 2 := by rw [List.length_take]; omega
    have hy : (due.drop (due.length / 2)).length = due.length / 2 := by rw [List.length_drop]; omega
    have hbh : b ^ (due.length / 2) < 2 ^ 1000 := big_pow hb2 hb13 (show due.length / 2 < 20 by omega)
    have h10 := SOk.toT (sok_comp_nums (c := lawCx prog w Pm p loose mean mg mb cn cs L f ccd cl [n0, n1, n2, n3, n4, n5, n6, n7, n8, n9, n10, n11, n12, n13] A₀ base h₀) (Z := []) (Pm := Pm) (C := callI (TT none) 40) (ib := 11) (iw := 10) (il := 12) (iy := 8) (y := n8) (hss := [due.take (due.length / 2), due.drop (due.length / 2)]) (ns := [val b (due.take (due.length / 2)).reverse, val b (due.drop (due.length / 2)).reverse]) (b := b) (wi := (wn : Int)) (le := le) ok (by omega) rfl hC
      (soundE ok hC (.var 7) t10 (ev10v (w := wn) (b := b) (p := pr) (le := le) (a1 := .val (vi due)) (a2 := .val (vi row)) (a3 := .val (vi prime)) (a4 := .val (vi whole)) (a5 := .val (vi [])) (a6 := .val (vi (List.reverse fd))) (a7 := .unset) (a8 := .unset) (a9 := .val (.int due.length)))).v c2h (noIo rfl) sw10 (noOwn rfl) (by unfold lfr; simp) rfl l8 rfl rfl z11 rfl rfl z10 rfl rfl z12 c2c c2lb c2lw c2ll c2n c2k c2m c2x c2b c2w c2e c2f c2g c2s gLn gFd gMs d2x d11 d10 d12 dLn dFd dMs fnLn (by omega) (by omega) (by simp) rfl (fun i hs n e1 e2 => by
        match i, e1, e2 with
        | 0, e1, e2 => cases e1; cases e2; exact ev10 hW hw4 hb2 hb13 (K.dig.sub fun x hx => List.mem_of_mem_take hx) (by omega) (by rw [hx]; exact hbh)
        | 1, e1, e2 => cases e1; cases e2; exact ev10 hW hw4 hb2 hb13 (K.dig.sub fun x hx => List.mem_of_mem_drop hx) (by omega) (by rw [hy]; exact hbh)
        | i + 2, e1, e2 => simp at e1))
    have z1 := ok_comp_zip (c := lawCx prog w Pm p loose mean mg mb cn cs L f ccd cl [n0, n1, n2, n3, n4, n5, n6, n7, n8, n9, n10, n11, n12, n13] A₀ base h₀) (Z := []) (p1 := q48) (p2 := q49) (p3 := q50) (p4 := q51) (p5 := q52) (p6 := q53) (p7 := q54) (p8 := q55) (pos := q56) (kt := k5) ok
      (soundE ok hC (.idxv 7 (.int 0)) t11a (ev11a (w := wn) (b := b) (p := pr) (le := le) (a1 := .val (vi due)) (a2 := .val (vi row)) (a3 := .val (vi prime)) (a4 := .val (vi whole)) (a5 := .val (vi [])) (a6 := .val (vi (List.reverse fd))) (a7 := .unset) (a8 := .val (vi [val b (due.take (due.length / 2)).reverse, val b (due.drop (due.length / 2)).reverse])) (a9 := .val (.int due.length)) (x := due.take (due.length / 2)) (y := due.drop (due.length / 2)))).v
      (soundE ok hC (.idxv 7 (.int 1)) t11b (ev11b (w := wn) (b := b) (p := pr) (le := le) (a1 := .val (vi due)) (a2 := .val (vi row)) (a3 := .val (vi prime)) (a4 := .val (vi whole)) (a5 := .val (vi [])) (a6 := .val (vi (List.reverse fd))) (a7 := .unset) (a8 := .val (vi [val b (due.take (due.length / 2)).reverse, val b (due.drop (due.length / 2)).reverse])) (a9 := .val (.int due.length)) (x := due.take (due.length / 2)) (y := due.drop (due.length / 2)))).v
      (fun _ => t11a.pl.star _ _) (fun _ => t11b.pl.star _ _) bz c3c c3n c3k c3m c3x c3y c3xy d3x d3y (by rw [hx]; omega)
    have c1 := (soundE ok hC L11c t11c (ev11c (w := wn) (b := b) (p := pr) (le := le) (due := due) (row := row) (prime := prime) (a3 := .val (vi whole)) (a4 := .val (vi [])) (s5 := .val (vi (List.reverse fd))) (s6 := .unset) (s7 := .val (.list [vi (due.take (due.length / 2)), vi (due.drop (due.length / 2))])) (s8 := .val (vi [val b (due.take (due.length / 2)).reverse, val b (due.drop (due.length / 2)).reverse])) m1)).v
    have cmp1 := ok_cmpv (op := .eq) (pos := q57) (t := true) ok z1.v c1 (by rw [hz]; show cmp .eq (vi _) (vi _) = _; rw [cmp_eqi]; simp)
    have s1 := ok_sum (p := q30) (pos := q31) ok bs (fun _ => t11d.pl.star _ _) (soundE ok hC (.var 8) t11d (ev11d (w := wn) (b := b) (p := pr) (le := le) (a1 := .val (vi due)) (a2 := .val (vi row)) (a3 := .val (vi prime)) (a4 := .val (vi whole)) (a5 := .val (vi [])) (a6 := .val (vi (List.reverse fd))) (a7 := .unset) (a8 := .val (.list [vi (due.take (due.length / 2)), vi (due.drop (due.length / 2))])) (a9 := .val (.int due.length)) (ns := [val b (due.take (due.length / 2)).reverse, val b (due.drop (due.length / 2)).reverse]))).v
    have c2 := (soundE ok hC L11e t11e (ev11e (w := wn) (b := b) (p := pr) (le := le) (due := due) (row := row) (prime := prime) (a3 := .val (vi whole)) (a4 := .val (vi [])) (s5 := .val (vi (List.reverse fd))) (s6 := .unset) (s7 := .val (.list [vi (due.take (due.length / 2)), vi (due.drop (due.length / 2))])) (s8 := .val (vi [val b (due.take (due.length / 2)).reverse, val b (due.drop (due.length / 2)).reverse])) m1 hb2 hb13)).v
    have cmp2 := ok_cmpv (op := .eq) (pos := q32) (t := true) ok s1.v c2 (by simp only [R.v, cmp, cmpI, List.sum_cons, List.sum_nil, Int.add_zero, hsum, decide_true])
    have h11 := SOk.toT (sok_stop (rest := []) (sok_ret (pos := q58) (ok_and2 (pos := q33) cmp1 cmp2) (kIo rfl)) (by intro q; cases q))
    exact fin (sokT_cons h3 (sokT_cons h4 (sokT_cons h5 (sokT_cons h6 (sokT_cons h7 (sokT_cons (SOk.toT (sok_ite (b := false) t8' (KeepsIo.refl _) sok_nil)) (sokT_cons h9 (sokT_cons h10 h11))))))))
end
end Mine
end PLx

section PLy
set_option maxRecDepth 100000
open PySem PySem.W PySem.Spec PySem.Calls PyProof.Rows
namespace Mine
section
variable {prog : Program} {w : World} {Pm : Params} {p : Program} {loose : List Str} {mean : ExcName → Option Value} {mg mb : Str → Option Value} {s : Shared} {base : Heap} {L f : Addr} {m : Str → Option Value} {cn : Str} {cs : Scope} {ccd : Value} {cl : List (Str × Addr)}

set_option maxHeartbeats 4000000 in
theorem law_go {n0 n1 n2 n3 n4 n5 n6 n7 n8 n9 n10 n11 n12 n13 nPm nLn nFd nMs x1 x2 x3 y3 : Str} {st1 st3 st4 st9 : Stmt} {e2 e7 e10 e11a e11b e11c e11d e11e b1 b2 b3 b8 a6 a7 : Expr} {as6 as7 : List Expr} {bd5 bd6 bd7 : List Stmt} {sc1 sc2 sc3 : Scope} {clz1 clz2 clz3 : List (Str × Addr)}
    {q1 q2 q3 q4 q5 q6 q7 q8 q9 q10 q11 q12 q13 q14 q15 q16 q17 q18 q19 q20 q21 q22 q23 q24 q25 q26 q27 q28 q29 q30 q31 q32 q33 q34 q35 q36 q37 q38 q39 q40 q41 q42 q43 q44 q45 q46 q47 q48 q49 q50 q51 q52 q53 q54 q55 q56 q57 q58 : Pos} {k1 k2 k3 k4 k5 : Nat}
    {wi b pr le : Int} {news : Led} {aw ab al cm : Addr} {ow ob ol om : Obj} {tw tb tl tp : Tok} {v0 : Option Value} {Q : Flow → Shared → Prop} {E : Value → Shared → Prop}
    (B : Below callerA base [] base) (F : Fr base L s.heap m) (X : (hK Pm).In base) (N : News base L s.heap news) (T : Top p loose mean mg mb base) (CH : CodeHd base 260 256) (hke : cs.kind = .function) (nod : [n0, n1, n2, n3, n4, n5, n6, n7, n8, n9, n10, n11, n12, n13].Nodup)
    (t1 : TS (hK Pm) (fa 0) cs [n0, n1, n2, n3, n4, n5, n6, n7, n8, n9, n10, n11, n12, n13] L1 st1)
    (t2 : TE (hK Pm) (fa 0) cs [n0, n1, n2, n3, n4, n5, n6, n7, n8, n9, n10, n11, n12, n13] L2e e2)
    (t3 : TS (hK Pm) (fa 0) cs [n0, n1, n2, n3, n4, n5, n6, n7, n8, n9, n10, n11, n12, n13] L3 st3)
    (t4 : TS (hK Pm) (fa 0) cs [n0, n1, n2, n3, n4, n5, n6, n7, n8, n9, n10, n11, n12, n13] L4 st4)
    (t5a : TB (hK Pm) (fa 0) cs [n0, n1, n2, n3, n4, n5, n6, n7, n8, n9, n10, n11, n12, n13] L5a b1)
    (t5b : TB (hK Pm) (fa 0) cs [n0, n1, n2, n3, n4, n5, n6, n7, n8, n9, n10, n11, n12, n13] L5b b2)
    (t5c : TB (hK Pm) (fa 0) cs [n0, n1, n2, n3, n4, n5, n6, n7, n8, n9, n10, n11, n12, n13] L5c b3)
    (t6 : TEs (hK Pm) (fa 0) cs [n0, n1, n2, n3, n4, n5, n6, n7, n8, n9, n10, n11, n12, n13] L6 (a6 :: as6))
    (t7 : TEs (hK Pm) (fa 0) cs [n0, n1, n2, n3, n4, n5, n6, n7, n8, n9, n10, n11, n12, n13] L7 (a7 :: as7))
    (t7t : TE (hK Pm) (fa 0) cs [n0, n1, n2, n3, n4, n5, n6, n7, n8, n9, n10, n11, n12, n13] L7t e7)
    (t8 : TB (hK Pm) (fa 0) cs [n0, n1, n2, n3, n4, n5, n6, n7, n8, n9, n10, n11, n12, n13] L8 b8)
    (t9 : TS (hK Pm) (fa 0) cs [n0, n1, n2, n3, n4, n5, n6, n7, n8, n9, n10, n11, n12, n13] L9 st9)
    (t10 : TE (hK Pm) (fa 0) cs [n0, n1, n2, n3, n4, n5, n6, n7, n8, n9, n10, n11, n12, n13] (.var 7) e10)
    (t11a : TE (hK Pm) (fa 0) cs [n0, n1, n2, n3, n4, n5, n6, n7, n8, n9, n10, n11, n12, n13] (.idxv 7 (.int 0)) e11a)
    (t11b : TE (hK Pm) (fa 0) cs [n0, n1, n2, n3, n4, n5, n6, n7, n8, n9, n10, n11, n12, n13] (.idxv 7 (.int 1)) e11b)
    (t11c : TE (hK Pm) (fa 0) cs [n0, n1, n2, n3, n4, n5, n6, n7, n8, n9, n10, n11, n12, n13] L11c e11c)
    (t11d : TE (hK Pm) (fa 0) cs [n0, n1, n2, n3, n4, n5, n6, n7, n8, n9, n10, n11, n12, n13] (.var 8) e11d)
    (t11e : TE (hK Pm) (fa 0) cs [n0, n1, n2, n3, n4, n5, n6, n7, n8, n9, n10, n11, n12, n13] L11e e11e)
    (z10 : cs.names.lookup n10 = some .cell) (z11 : cs.names.lookup n11 = some .cell) (z12 : cs.names.lookup n12 = some .cell) (z13 : cs.names.lookup n13 = some .cell) (l6 : cs.names.lookup n6 = some .local) (l8 : cs.names.lookup n8 = some .local) (hcl13 : cl.lookup n13 = some cm)
    (sw2 : swapsWith e2 (some (.Name n13 q1)) q2.line (envX cn cs L f ccd cl) = pure false)
    (gPm : nsIn (hK Pm) mainGlobals nPm = some (some (.ref 268))) (lPm : cs.names.lookup nPm = some .globalImplicit) (dPm : (nPm == ("__debug__" : Str)) = false) (fnPm : ∀ h, (hK Pm).In h → FnAt 268 h) (fnLn : ∀ h, (hK Pm).In h → FnAt 336 h)
    (c1c : closureFor sc1 (envX cn cs L f ccd cl) = pure clz1) (c1l : clz1.lookup n13 = cl.lookup n13) (c1n : ∀ y ∈ sc1.names, y.2 ≠ .cell) (c1k : sc1.kind = .function) (c1m : ∀ y ∈ sc1.names, y.2 = .local → sc1.names.lookup y.1 = some .local) (c1x : sc1.names.lookup x1 = some .local) (d1x : (x1 == ("__debug__" : Str)) = false) (d13 : (n13 == ("__debug__" : Str)) = false)
    (c1z : ∀ C, (compEnvC sc1 clz1 C (envX cn cs L f ccd cl)).kindOf n13 = some .cell) (c1f : ∀ v, foldedSetIterable e7 (envX cn cs L f ccd cl) v = pure v)
    (c2c : closureFor sc2 (envX cn cs L f ccd cl) = pure clz2) (c2lb : clz2.lookup n11 = cl.lookup n11) (c2lw : clz2.lookup n10 = cl.lookup n10) (c2ll : clz2.lookup n12 = cl.lookup n12) (c2n : ∀ y ∈ sc2.names, y.2 ≠ .cell) (c2k : sc2.kind = .function) (c2m : ∀ y ∈ sc2.names, y.2 = .local → sc2.names.lookup y.1 = some .local) (c2x : sc2.names.lookup x2 = some .local)
    (c2b : ∀ C, (compEnvC sc2 clz2 C (envX cn cs L f ccd cl)).kindOf n11 = some .cell) (c2w : ∀ C, (compEnvC sc2 clz2 C (envX cn cs L f ccd cl)).kindOf n10 = some .cell) (c2e : ∀ C, (compEnvC sc2 clz2 C (envX cn cs L f ccd cl)).kindOf n12 = some .cell)
    (c2f : ∀ C, (compEnvC sc2 clz2 C (envX cn cs L f ccd cl)).kindOf nLn = some .globalImplicit) (c2g : ∀ C, (compEnvC sc2 clz2 C (envX cn cs L f ccd cl)).kindOf nFd = some .globalImplicit) (c2s : ∀ C, (compEnvC sc2 clz2 C (envX cn cs L f ccd cl)).kindOf nMs = some .globalImplicit)
    (gLn : nsIn (hK Pm) mainGlobals nLn = some (some (.ref 336))) (gFd : nsIn (hK Pm) mainGlobals nFd = some (some (.ref (fa 0 22)))) (gMs : nsIn (hK Pm) mainGlobals nMs = some (some (.ref (fa 0 29))))
    (d2x : (x2 == ("__debug__" : Str)) = false) (d11 : (n11 == ("__debug__" : Str)) = false) (d10 : (n10 == ("__debug__" : Str)) = false) (d12 : (n12 == ("__debug__" : Str)) = false) (dLn : (nLn == ("__debug__" : Str)) = false) (dFd : (nFd == ("__debug__" : Str)) = false) (dMs : (nMs == ("__debug__" : Str)) = false)
    (c2h : ∀ v, foldedSetIterable e10 (envX cn cs L f ccd cl) v = pure v)
    (sw10 : swapsWith (.ListComp (.Call (.Name nLn q34) [.Call (.Name nFd q35) [.Name x2 q36, .Name n11 q37, .Name n10 q38, .Name n12 q39, .Name nMs q40] [] q41, .Name n10 q42] [] q43) [⟨.Name x2 q44, e10, [], 0⟩] sc2 q45) (some (.Name n8 q46)) q47.line (envX cn cs L f ccd cl) = pure true)
    (bz : BName (hK Pm) cs (Str.ofString "zip")) (bs : BName (hK Pm) cs (Str.ofString "sum"))
    (c3c : closureFor sc3 (envX cn cs L f ccd cl) = pure clz3) (c3n : ∀ y ∈ sc3.names, y.2 ≠ .cell) (c3k : sc3.kind = .function) (c3m : ∀ y ∈ sc3.names, y.2 = .local → sc3.names.lookup y.1 = some .local) (c3x : sc3.names.lookup x3 = some .local) (c3y : sc3.names.lookup y3 = some .local) (c3xy : x3 ≠ y3) (d3x : (x3 == ("__debug__" : Str)) = false) (d3y : (y3 == ("__debug__" : Str)) = false)
    (mw : (aw, ow) ∈ news) (mB : (ab, ob) ∈ news) (ml : (al, ol) ∈ news) (mM : (cm, om) ∈ news) (mt : (256, tabObj #[]) ∈ news)
    (dw : ow.data = .cell (some (.int wi tw))) (db : ob.data = .cell (some (.int b tb))) (dl : ol.data = .cell (some (.int le tl))) (dM : om.data = .cell v0)
    (hp9 : m n9 = some (.int pr tp)) (l9 : cs.names.lookup n9 = some .local) (hcl10 : cl.lookup n10 = some aw) (hcl11 : cl.lookup n11 = some ab) (hcl12 : cl.lookup n12 = some al)
    (nw : @Ne Nat aw cm) (nb : @Ne Nat ab cm) (nl : @Ne Nat al cm)
    (hb2 : 2 ≤ b) (hb13 : b ≤ 13) (hpr : pr ∈ psL) (hbp : b % pr ≠ 0) (hw4 : 4 ≤ wi) (hw8 : wi ≤ 8)
    (k : ∀ h' tk' m' ps', Fr base L h' m' → News base L h' [(256, tabObj ps')] → Q (.ret (.bool true)) { s with heap := h', toks := tk' }) :
    wpAny (model prog w) (callerA.deeper (envX cn cs L f ccd cl)) (execs [st1, .Assign [.Name n13 q1] e2 q2, st3, st4, .If (.BoolOp .Or [b1, b2, b3] q3) bd5 [] q4,
      .If (.Compare (.Call (.Name nPm q5) (a6 :: as6) [] q6) [.NotEq] [.List [.Constant (.int 1) k1 q7] q8] q9) bd6 [] q10,
      .For (.Name n6 q11) (.ListComp (.Name x1 q12) [⟨.Name x1 q13, e7, [.Compare (.BinOp (.Name n13 q14) .Mod (.Name x1 q15) q16) [.Eq] [.Constant (.int 0) k2 q17] q18], 0⟩] sc1 q19) [.If (.Compare (.Call (.Name nPm q20) (a7 :: as7) [] q21) [.Eq] [.List [.Constant (.int 1) k3 q22] q23] q24) bd7 [] q25] [] q26,
      .If b8 [.Return (some (.Constant (.bool true) k4 q27)) q28] [] q29, st9,
      .Assign [.Name n8 q46] (.ListComp (.Call (.Name nLn q34) [.Call (.Name nFd q35) [.Name x2 q36, .Name n11 q37, .Name n10 q38, .Name n12 q39, .Name nMs q40] [] q41, .Name n10 q42] [] q43) [⟨.Name x2 q44, e10, [], 0⟩] sc2 q45) q47,
      .Return (some (.BoolOp .And [.Compare (.ListComp (.BinOp (.Name x3 q48) .Add (.Name y3 q49) q50) [⟨.Tuple [.Name x3 q51, .Name y3 q52] k5 q53, .Call (.Name (Str.ofString "zip") q54) [e11a, e11b] [] q55, [], 0⟩] sc3 q56) [.Eq] [e11c] q57, .Compare (.Call (.Name (Str.ofString "sum") q30) [e11d] [] q31) [.Eq] [e11e] q32] q33)) q58] (envX cn cs L f ccd cl)) Q E s := by
  obtain ⟨wn, rfl⟩ : ∃ wn : Nat, wi = (wn : Int) := ⟨wi.toNat, by omega⟩
  have apart : ∀ {a : Addr} {o : Obj} {v : Option Value}, (a, o) ∈ news → o.data = .cell v → a ≠ 256 := fun {a o v} hm hd e => by
    have e1 := (N _ hm).1
    have e2 := (N _ mt).1
    have e : a = 256 := e
    rw [e, e2] at e1
    cases e1
    cases hd
  have ok : CxOk (lawCx prog w Pm p loose mean mg mb cn cs L f ccd cl [n0, n1, n2, n3, n4, n5, n6, n7, n8, n9, n10, n11, n12, n13] callerA base base) 40 :=
    ⟨B, X, T, rfl, rfl, (by show (callerA.deeper _).depth + 40 < recursionLimit; (simp only [depth_deeper, depth_caller]); decide), (by show (callerA.deeper _).units + 8 * 40 + 100 < cLine; (simp only [units_deeper, units_caller]); decide), hke, nod⟩
  have S0 : FSt (lawCx prog w Pm p loose mean mg mb cn cs L f ccd cl [n0, n1, n2, n3, n4, n5, n6, n7, n8, n9, n10, n11, n12, n13] callerA base base) s.heap m [(aw, ow), (ab, ob), (al, ol)] [(256, tabObj #[]), (cm, om)] (lfr .unset .unset .unset .unset .unset .unset .unset .unset .unset pr wn b le .unset) := by
    refine ⟨F, fun q hq => ?_, fun q hq r hr => ?_, fun i sl e => ?_, fun i0 j0 s0 t0 x0 y0 a0 b0 hij e1 e2 h1 h2 => ?_⟩
    · simp only [List.cons_append, List.nil_append, List.mem_cons, List.not_mem_nil, or_false] at hq
      rcases hq with rfl | rfl | rfl | rfl | rfl
      · exact N _ mw
      · exact N _ mB
      · exact N _ ml
      · exact N _ mt
      · exact N _ mM
    · simp only [List.mem_cons, List.not_mem_nil, or_false] at hq hr
      rcases hr with rfl | rfl
      · rcases hq with rfl | rfl | rfl
        · exact apart mw dw
        · exact apart mB db
        · exact apart ml dl
      · rcases hq with rfl | rfl | rfl
        · exact nw
        · exact nb
        · exact nl
    · unfold lfr at e
      match i, e with
      | 0, e => cases e; exact ⟨n0, rfl, trivial⟩
      | 1, e => cases e; exact ⟨n1, rfl, trivial⟩
      | 2, e => cases e; exact ⟨n2, rfl, trivial⟩
      | 3, e => cases e; exact ⟨n3, rfl, trivial⟩
      | 4, e => cases e; exact ⟨n4, rfl, trivial⟩
      | 5, e => cases e; exact ⟨n5, rfl, trivial⟩
      | 6, e => cases e; exact ⟨n6, rfl, trivial⟩
      | 7, e => cases e; exact ⟨n7, rfl, trivial⟩
      | 8, e => cases e; exact ⟨n8, rfl, trivial⟩
      | 9, e => cases e; exact ⟨n9, rfl, _, .inl ⟨l9, hp9⟩, .int _ _⟩
      | 10, e => cases e; exact ⟨n10, rfl, _, .inr ⟨.inr z10, aw, ow, hcl10, .head _, dw⟩, .int _ _⟩
      | 11, e => cases e; exact ⟨n11, rfl, _, .inr ⟨.inr z11, ab, ob, hcl11, .tail _ (.head _), db⟩, .int _ _⟩
      | 12, e => cases e; exact ⟨n12, rfl, _, .inr ⟨.inr z12, al, ol, hcl12, .tail _ (.tail _ (.head _)), dl⟩, .int _ _⟩
      | 13, e => cases e; exact ⟨n13, rfl, trivial⟩
      | i + 14, e => simp at e
    · exfalso
      have h3 := noOwn (l := lfr .unset .unset .unset .unset .unset .unset .unset .unset .unset pr wn b le .unset) rfl i0 s0 e1
      rw [h1] at h3; cases h3
  exact wpAny_mono (law_rest ok CH t1 t2 t3 t4 t5a t5b t5c t6 t7 t7t t8 t9 t10 t11a t11b t11c t11d t11e z10 z11 z12 z13 l6 l8 hcl13 sw2 gPm lPm dPm fnPm fnLn c1c c1l c1n c1k c1m c1x d1x d13 c1z c1f c2c c2lb c2lw c2ll c2n c2k c2m c2x c2b c2w c2e c2f c2g c2s gLn gFd gMs d2x d11 d10 d12 dLn dFd dMs c2h sw10 bz bs c3c c3n c3k c3m c3x c3y c3xy d3x d3y hb2 hb13 hpr hbp (by omega) (by omega) S0 dM (apart mM dM) k) (fun _ _ q => q) (fun _ _ q => False.elim q)
end
end Mine
end PLy

section Last
set_option maxRecDepth 100000
open PySem PySem.W PySem.Spec PySem.Calls PyProof.Rows
namespace Mine
theorem ne14 {L : Nat} : @Ne Nat (L + 1) (L + 1 + 1 + 1 + 1) := by omega
theorem ne24 {L : Nat} : @Ne Nat (L + 1 + 1) (L + 1 + 1 + 1 + 1) := by omega
theorem ne34 {L : Nat} : @Ne Nat (L + 1 + 1 + 1) (L + 1 + 1 + 1 + 1) := by omega
theorem ps_ne {r : Int} (h0 : 0 ≤ r) (h1 : r < 7) : psL.getD r.toNat 0 ≠ 0 := by have := ps_pos h0 h1; omega
theorem lo2 {r : Int} (h : 0 ≤ r) : 2 ≤ 2 + r := by omega
theorem lo3 {r : Int} (h : 0 ≤ r) : 2 ≤ 2 + r + 1 := by omega
theorem hi2 {r : Int} (h : r < 11) : 2 + r ≤ 13 := by omega
theorem hi3 {r : Int} (h : r < 11) : 2 + r + 1 ≤ 13 := by omega
theorem lo4 {r : Int} (h : 0 ≤ r) : 4 ≤ 4 + r := by omega
theorem hi4 {r : Int} (h : r < 5) : 4 + r ≤ 8 := by omega
end Mine
open Mine
local macro_rules | `(tactic| walk_at "call ref") => `(tactic| (k_here; (with_reducible show wpAny _ _ (call (Value.ref 324) _) _ _ _); refine halt ?_))
local macro_rules | `(tactic| walk_at "execs cons") => `(tactic| (k_here; (with_reducible show wpAny _ _ (execs (Stmt.Assign [Expr.Tuple [Expr.Name _ _, Expr.Name _ _, Expr.Name _ _] _ _] _ _ :: _) _) _ _ _); refine halt ?_))
set_option maxRecDepth 100000 in
set_option maxHeartbeats 8000000 in
theorem PySem.Challenge.cw_sa0347_01_holds : PySem.Challenge.rw_sa0347_01.Holds := by
  w_on
  refine holds_law said0 fun said => ?_
  refine holds_open (q := vw) (loose := []) (Xt := fun s => xlAt vw [] s && recOk (RowW.records PySem.Challenge.rw_sa0347_01.row.toRowW) s) (XP := XL vw []) (Yf := Hook.obs (kmHook hK hAs hAs_eq [256])) (Ya := Hook.val (kmHook hK hAs hAs_eq [256])) (YP := Hook.says (kmHook hK hAs hAs_eq [256])) (N := 4350) ?hl (Hook.of (kmHook hK hAs hAs_eq [256])) (Hook.keeps (kmHook hK hAs hAs_eq [256])) (fun s e => xl_of s (Bool.and_eq_true_iff.mp e).1) XL.keeps (by rfl) (by rfl) (by rfl) (fun s e => recFacts_of (Bool.and_eq_true_iff.mp e).2) (by rfl) (by first | assumption | decide +kernel) (by decide +kernel) ⟨rfl, rfl, rfl, rfl, rfl, by decide +kernel⟩ ?hw ?hc
  case hl => exact my_left
  case hw => w_witness2
  clear said
  w_strict (k_go0; (all_goals try k_fold); k_steps; (repeat' ((with_reducible refine halted ?_); (first
    | ((with_reducible show wpAny _ _ (call (Value.ref 324) [Value.ref _, Value.int _ _]) _ _ _); k_dflt ((refine' c_turned ?k1 ?k2 ?k3 ?k4 ?k5 ?kA ?kF ?kK ?kh ?k6 ?k7 ?kU ?km ?kI ?kl ?kc ?kc2 ?kk ?_); (case kA => exact rfl); (case kF => exact rfl); (case kK => exact rfl); (case kh => exact rfl); (case k1 => k_asm); (case k2 => k_asm); (case k3 => k_asm); (case k4 => k_asm); (case k5 => k_asm); (case k6 => ((try simp only [depth_under_make, depth_under_kw, depth_in1, depth_deeper, depth_caller]); decide)); (case k7 => ((try simp only [units_in1, units_deeper, Around.mark_units, units_caller]); decide)); (case kU => k_updF); (case km => k_mem); (case kI => k_asm); (case kl => (simp [lenLim]; omega)); (case kc => decide); (case kc2 => decide); (case kk => decide); k_whole); intro r' tk1' tk2' D' its' n1' n2' h' tkk' hr0' hr1' hne' hIr' F' N'; (try dsimp only at N'); k_dflt (have cn' := cells4 F' N' (List.Mem.head _) (by k_mem) (by k_mem) (by k_mem) (by k_mem) (by assumption) (by assumption) (by assumption) (by assumption)))
    | ((with_reducible show wpAny _ _ (execs (Stmt.Assign [Expr.Tuple [Expr.Name _ _, Expr.Name _ _, Expr.Name _ _] _ _] _ _ :: _) _) _ _ _); k_dflt ((refine' law_go (n0 := Str.ofString "due") (n1 := Str.ofString "row") (n2 := Str.ofString "prime") (n3 := Str.ofString "whole") (n4 := Str.ofString "rest") (n5 := Str.ofString "digits") (n6 := Str.ofString "part") (n7 := Str.ofString "halves") (n8 := Str.ofString "sums") (n9 := Str.ofString "p") (n10 := Str.ofString "w") (n11 := Str.ofString "base") (n12 := Str.ofString "least") (n13 := Str.ofString "many") ?p_B ?p_F ?p_X ?p_N ?p_T ?p_CH ?p_hke ?p_nod ?p_t1 ?p_t2 ?p_t3 ?p_t4 ?p_t5a ?p_t5b ?p_t5c ?p_t6 ?p_t7 ?p_t7t ?p_t8 ?p_t9 ?p_t10 ?p_t11a ?p_t11b ?p_t11c ?p_t11d ?p_t11e ?p_z10 ?p_z11 ?p_z12 ?p_z13 ?p_l6 ?p_l8 ?p_hcl13 ?p_sw2 ?p_gPm ?p_lPm ?p_dPm ?p_fnPm ?p_fnLn ?p_c1c ?p_c1l ?p_c1n ?p_c1k ?p_c1m ?p_c1x ?p_d1x ?p_d13 ?p_c1z ?p_c1f ?p_c2c ?p_c2lb ?p_c2lw ?p_c2ll ?p_c2n ?p_c2k ?p_c2m ?p_c2x ?p_c2b ?p_c2w ?p_c2e ?p_c2f ?p_c2g ?p_c2s ?p_gLn ?p_gFd ?p_gMs ?p_d2x ?p_d11 ?p_d10 ?p_d12 ?p_dLn ?p_dFd ?p_dMs ?p_c2h ?p_sw10 ?p_bz ?p_bs ?p_c3c ?p_c3n ?p_c3k ?p_c3m ?p_c3x ?p_c3y ?p_c3xy ?p_d3x ?p_d3y ?p_mw ?p_mB ?p_ml ?p_mM ?p_mt ?p_dw ?p_db ?p_dl ?p_dM ?p_hp9 ?p_l9 ?p_hcl10 ?p_hcl11 ?p_hcl12 ?p_nw ?p_nb ?p_nl ?p_hb2 ?p_hb13 ?p_hpr ?p_hbp ?p_hw4 ?p_hw8 ?_); (case p_F => k_asm); (case p_N => k_asm); (case p_hcl10 => exact rfl); (case p_hcl11 => exact rfl); (case p_hcl12 => exact rfl); (case p_hcl13 => exact rfl); (case p_mw => k_mem); (case p_mB => k_mem); (case p_ml => k_mem); (case p_mM => k_mem); (case p_mt => k_mem); (case p_dw => assumption); (case p_db => assumption); (case p_dl => assumption); (case p_dM => assumption); (case p_hp9 => exact rfl); (case p_B => k_asm); (case p_X => k_asm); (case p_T => k_asm); (case p_CH => assumption); (case p_hke => exact rfl); (case p_nod => decide); (case p_t1 => ((refine (.asgS (ns := [Str.ofString "due", Str.ofString "row", Str.ofString "prime"]) (.cons ?_ ?_ (.cons ?_ ?_ (.cons ?_ ?_ .nil))) ?_ (by decide) (.cons (.call (.gl ?_ ?_ ?_) (.cons (.var ?_ ?_) (.cons (.var ?_ ?_) .nil))) (.cons (.call (.gl ?_ ?_ ?_) (.cons (.var ?_ ?_) (.cons (.var ?_ ?_) .nil))) (.cons (.call (.gl ?_ ?_ ?_) (.cons (.var ?_ ?_) (.cons (.var ?_ ?_) .nil))) .nil))) ?_)) <;> (first | kernel_rfl | (intro env h; obtain ⟨⟩ := env; dsimp only at h; subst h; kernel_rfl)))); (case p_t2 => ((refine (.lenv ⟨?_, ?_⟩ ?_ ?_)) <;> (first | kernel_rfl | (intro env h; obtain ⟨⟩ := env; dsimp only at h; subst h; kernel_rfl)))); (case p_t3 => ((refine (.asgU (.cons ?_ ?_ (.cons ?_ ?_ .nil)) (.call (.gl ?_ ?_ ?_) (.cons (.call (.gl ?_ ?_ ?_) (.cons (.call (.gl ?_ ?_ ?_) (.cons (.var ?_ ?_) (.cons (.var ?_ ?_) (.cons (.var ?_ ?_) (.cons (.gl ?_ ?_ ?_) .nil))))) (.cons (.list (by decide) (.cons .int .nil)) (.cons (.var ?_ ?_) .nil)))) (.cons (.var ?_ ?_) (.cons (.var ?_ ?_) .nil)))) ?_)) <;> (first | kernel_rfl | (intro env h; obtain ⟨⟩ := env; dsimp only at h; subst h; kernel_rfl)))); (case p_t4 => ((refine (.asg ?_ ?_ (.call (.gl ?_ ?_ ?_) (.cons (.var ?_ ?_) (.cons (.var ?_ ?_) (.cons (.var ?_ ?_) (.cons (.var ?_ ?_) (.cons (.gl ?_ ?_ ?_) (.cons (.gl ?_ ?_ ?_) .nil))))))))) <;> (first | kernel_rfl | (intro env h; obtain ⟨⟩ := env; dsimp only at h; subst h; kernel_rfl)))); (case p_t5a => ((refine (.cmp (.var ?_ ?_) (.list (by decide) .nil))) <;> (first | kernel_rfl | (intro env h; obtain ⟨⟩ := env; dsimp only at h; subst h; kernel_rfl)))); (case p_t5b => ((refine (.cmp (.bin (.bin (.list (by decide) (.cons .int .nil)) (.bin (.var ?_ ?_) (.lenv ⟨?_, ?_⟩ ?_ ?_))) (.var ?_ ?_)) (.var ?_ ?_))) <;> (first | kernel_rfl | (intro env h; obtain ⟨⟩ := env; dsimp only at h; subst h; kernel_rfl)))); (case p_t5c => ((refine (.cmp (.bin (.bin (.var ?_ ?_) .int) (.var ?_ ?_)) .int)) <;> (first | kernel_rfl | (intro env h; obtain ⟨⟩ := env; dsimp only at h; subst h; kernel_rfl)))); (case p_t6 => ((refine (.cons (.var ?_ ?_) (.cons (.call (.gl ?_ ?_ ?_) (.cons (.var ?_ ?_) (.cons (.var ?_ ?_) .nil))) (.cons (.var ?_ ?_) (.cons (.var ?_ ?_) (.cons .int (.cons (.gl ?_ ?_ ?_) (.cons (.gl ?_ ?_ ?_) .nil)))))))) <;> (first | kernel_rfl | (intro env h; obtain ⟨⟩ := env; dsimp only at h; subst h; kernel_rfl)))); (case p_t7 => ((refine (.cons (.var ?_ ?_) (.cons (.call (.gl ?_ ?_ ?_) (.cons (.bin (.var ?_ ?_) (.var ?_ ?_)) (.cons (.var ?_ ?_) .nil))) (.cons (.var ?_ ?_) (.cons (.var ?_ ?_) (.cons .int (.cons (.gl ?_ ?_ ?_) (.cons (.gl ?_ ?_ ?_) .nil)))))))) <;> (first | kernel_rfl | (intro env h; obtain ⟨⟩ := env; dsimp only at h; subst h; kernel_rfl)))); (case p_t7t => ((refine (.tup (by decide) (.cons .int (.cons .int (.cons .int .nil))))) <;> (first | kernel_rfl | (intro env h; obtain ⟨⟩ := env; dsimp only at h; subst h; kernel_rfl)))); (case p_t8 => ((refine (.cmp (.bin (.var ?_ ?_) .int) .int)) <;> (first | kernel_rfl | (intro env h; obtain ⟨⟩ := env; dsimp only at h; subst h; kernel_rfl)))); (case p_t9 => ((refine (.asg ?_ ?_ (.list (by decide) (.cons (.slc ?_ ?_ .none (.some (.bin (.var ?_ ?_) .int))) (.cons (.slc ?_ ?_ (.some (.bin (.var ?_ ?_) .int)) .none) .nil))))) <;> (first | kernel_rfl | (intro env h; obtain ⟨⟩ := env; dsimp only at h; subst h; kernel_rfl)))); (case p_t10 => ((refine (.var ?_ ?_)) <;> (first | kernel_rfl | (intro env h; obtain ⟨⟩ := env; dsimp only at h; subst h; kernel_rfl)))); (case p_t11a => ((refine (.idxv ?_ ?_ .int)) <;> (first | kernel_rfl | (intro env h; obtain ⟨⟩ := env; dsimp only at h; subst h; kernel_rfl)))); (case p_t11b => ((refine (.idxv ?_ ?_ .int)) <;> (first | kernel_rfl | (intro env h; obtain ⟨⟩ := env; dsimp only at h; subst h; kernel_rfl)))); (case p_t11c => ((refine (.bin (.list (by decide) (.cons (.bin (.var ?_ ?_) .int) .nil)) (.bin (.var ?_ ?_) .int))) <;> (first | kernel_rfl | (intro env h; obtain ⟨⟩ := env; dsimp only at h; subst h; kernel_rfl)))); (case p_t11d => ((refine (.var ?_ ?_)) <;> (first | kernel_rfl | (intro env h; obtain ⟨⟩ := env; dsimp only at h; subst h; kernel_rfl)))); (case p_t11e => ((refine (.bin (.bin (.var ?_ ?_) (.bin (.var ?_ ?_) .int)) .int)) <;> (first | kernel_rfl | (intro env h; obtain ⟨⟩ := env; dsimp only at h; subst h; kernel_rfl)))); (case p_z10 => exact rfl); (case p_z11 => exact rfl); (case p_z12 => exact rfl); (case p_z13 => exact rfl); (case p_l6 => exact rfl); (case p_l8 => exact rfl); (case p_sw2 => exact rfl); (case p_gPm => kernel_rfl); (case p_lPm => exact rfl); (case p_dPm => exact rfl); (case p_fnPm => exact fun h X => ⟨_, _, _, _, X _ _ (by k_is)⟩); (case p_fnLn => exact fun h X => ⟨_, _, _, _, X _ _ (by k_is)⟩); (case p_c1c => exact rfl); (case p_c1l => exact rfl); (case p_c1n => decide); (case p_c1k => exact rfl); (case p_c1m => decide); (case p_c1x => exact rfl); (case p_d1x => exact rfl); (case p_d13 => exact rfl); (case p_c1z => exact fun _ => rfl); (case p_c1f => exact fun _ => rfl); (case p_c2c => exact rfl); (case p_c2lb => exact rfl); (case p_c2lw => exact rfl); (case p_c2ll => exact rfl); (case p_c2n => decide); (case p_c2k => exact rfl); (case p_c2m => decide); (case p_c2x => exact rfl); (case p_c2b => exact fun _ => rfl); (case p_c2w => exact fun _ => rfl); (case p_c2e => exact fun _ => rfl); (case p_c2f => exact fun _ => rfl); (case p_c2g => exact fun _ => rfl); (case p_c2s => exact fun _ => rfl); (case p_gLn => kernel_rfl); (case p_gFd => kernel_rfl); (case p_gMs => kernel_rfl); (case p_d2x => exact rfl); (case p_d11 => exact rfl); (case p_d10 => exact rfl); (case p_d12 => exact rfl); (case p_dLn => exact rfl); (case p_dFd => exact rfl); (case p_dMs => exact rfl); (case p_c2h => exact fun _ => rfl); (case p_sw10 => exact rfl); (case p_bz => exact ⟨by kernel_rfl, rfl⟩); (case p_bs => exact ⟨by kernel_rfl, rfl⟩); (case p_c3c => exact rfl); (case p_c3n => decide); (case p_c3k => exact rfl); (case p_c3m => decide); (case p_c3x => exact rfl); (case p_c3y => exact rfl); (case p_c3xy => decide); (case p_d3x => exact rfl); (case p_d3y => exact rfl); (case p_l9 => exact rfl); (case p_nw => exact ne14); (case p_nb => exact ne24); (case p_nl => exact ne34); (case p_hb2 => first | exact lo2 (by assumption) | exact lo3 (by assumption)); (case p_hb13 => first | exact hi2 (by assumption) | exact hi3 (by assumption)); (case p_hpr => exact ps_mem (by assumption) (by assumption)); (case p_hbp => first | exact fm_ne (ps_mem (by assumption) (by assumption)) (by assumption) | exact fm_succ (ps_mem (by assumption) (by assumption)) (by assumption)); (case p_hw4 => exact lo4 (by assumption)); (case p_hw8 => exact hi4 (by assumption))); intro h' tk' m' ps' F' N')); k_steps)); (all_goals (try k_data)); (all_goals (refine' absurd ?ze (ps_ne ?za ?zb); (case ze => assumption); (case za => assumption); (case zb => assumption))))
end Last
