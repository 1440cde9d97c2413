import PyProof.Rows.All
import Wide.All
import OpenK.AllK
import Wide.FinOn
import PySem.Challenge.RW_pp0009_01
open PySem PySem.W PyProof.Rows PySem.Calls PySem.Spec
set_option Elab.async false
set_option maxRecDepth 100000
set_option linter.unusedVariables false
namespace Mine
end Mine
open Mine

-- part p1
namespace Mine
/-- a text by its signs' numbers -/
def S (l : List Nat) : Str := ⟨l.toArray⟩
theorem S_len (l : List Nat) : (S l).length = l.length := by simp [S, Str.length]
theorem S_app (a b : List Nat) : S a ++ S b = S (a ++ b) := by
  apply Str.ext'
  rw [Str.cps_append]
  simp [S]
theorem S_cps (l : List Nat) : (S l).cps = l.toArray := rfl
theorem S_list (l : List Nat) : (S l).cps.toList = l := by simp [S]
theorem S_inj {a b : List Nat} (h : S a = S b) : a = b := by
  have := congrArg (fun x : Str => x.cps.toList) h
  simpa [S] using this
theorem S_ne {a b : List Nat} (h : a ≠ b) : S a ≠ S b := fun e => h (S_inj e)
def sgn (d : Nat) : Nat := if d < 10 then 48 + d else 87 + d
/-- the figures of n by base b, l at least, the greatest first -/
def digs (b : Nat) (n l : Nat) : List Nat :=
  if h : b < 2 ∨ (n = 0 ∧ l = 0) then [] else digs b (n / b) (l - 1) ++ [n % b]
termination_by n + l
decreasing_by
  rcases Nat.eq_zero_or_pos n with h0 | h0
  · subst h0; simp at h ⊢; omega
  · have := Nat.div_lt_self h0 (by omega : 1 < b); omega
theorem digs_nil {b : Nat} : digs b 0 0 = [] := by unfold digs; simp
theorem digs_step {b n l : Nat} (hb : 2 ≤ b) (h : 0 < n ∨ 0 < l) : digs b n l = digs b (n / b) (l - 1) ++ [n % b] := by
  conv => lhs; unfold digs
  rw [dif_neg (by omega)]
def val (b : Nat) (ds : List Nat) : Nat := ds.foldl (fun a d => a * b + d) 0
theorem val_snoc (b : Nat) (ds : List Nat) (d : Nat) : val b (ds ++ [d]) = val b ds * b + d := by simp [val]
theorem val_nil (b : Nat) : val b [] = 0 := rfl
theorem snoc_ind {α : Type} {P : List α → Prop} (h0 : P []) (h1 : ∀ l a, P l → P (l ++ [a])) (l : List α) : P l := by
  have h : ∀ l : List α, P l.reverse := by
    intro l
    induction l with
    | nil => exact h0
    | cons a r ih => rw [List.reverse_cons]; exact h1 _ _ ih
  have := h l.reverse
  rwa [List.reverse_reverse] at this
theorem val_append (b : Nat) (xs : List Nat) : ∀ ys : List Nat, val b (xs ++ ys) = val b xs * b ^ ys.length + val b ys := by
  refine snoc_ind ?_ ?_
  · simp [val]
  · intro ys d ih
    rw [← List.append_assoc, val_snoc, val_snoc, ih, List.length_append, List.length_singleton, Nat.pow_succ, Nat.add_mul, Nat.mul_assoc, Nat.add_assoc]
theorem val_lt {b : Nat} : ∀ ds : List Nat, (∀ d ∈ ds, d < b) → val b ds < b ^ ds.length := by
  refine snoc_ind ?_ ?_
  · intro _; simp [val]
  · intro ys d ih h
    have h1 := ih (fun x hx => h x (by simp [hx]))
    have h2 := h d (by simp)
    rw [val_snoc, List.length_append, List.length_singleton, Nat.pow_succ]
    have h3 : (val b ys + 1) * b ≤ b ^ ys.length * b := Nat.mul_le_mul_right _ h1
    rw [Nat.add_mul, Nat.one_mul] at h3
    omega
theorem digs_ind {b : Nat} (hb : 2 ≤ b) {P : Nat → Nat → Prop} (h0 : P 0 0) (h1 : ∀ n l, (0 < n ∨ 0 < l) → P (n / b) (l - 1) → P n l) (n l : Nat) : P n l := by
  have key : ∀ k n l, n + l ≤ k → P n l := by
    intro k
    induction k with
    | zero => intro n l h; obtain ⟨rfl, rfl⟩ : n = 0 ∧ l = 0 := by omega
              exact h0
    | succ k ih =>
      intro n l h
      by_cases hz : 0 < n ∨ 0 < l
      · refine h1 n l hz (ih _ _ ?_)
        rcases Nat.eq_zero_or_pos n with e | e
        · subst e; simp; omega
        · have := Nat.div_lt_self e (by omega : 1 < b); omega
      · obtain ⟨rfl, rfl⟩ : n = 0 ∧ l = 0 := by omega
        exact h0
  exact key _ n l (Nat.le_refl _)
theorem digs_lt {b : Nat} (hb : 2 ≤ b) (n l : Nat) : ∀ d ∈ digs b n l, d < b := by
  refine digs_ind hb (P := fun n l => ∀ d ∈ digs b n l, d < b) ?_ ?_ n l
  · rw [digs_nil]; simp
  · intro n l h ih d hd
    rw [digs_step hb h] at hd
    rcases List.mem_append.mp hd with q | q
    · exact ih d q
    · rw [List.mem_singleton.mp q]; exact Nat.mod_lt _ (by omega)
theorem val_digs {b : Nat} (hb : 2 ≤ b) (n l : Nat) : val b (digs b n l) = n := by
  refine digs_ind hb (P := fun n l => val b (digs b n l) = n) ?_ ?_ n l
  · rw [digs_nil]; rfl
  · intro n l h ih
    rw [digs_step hb h, val_snoc, ih, Nat.mul_comm]; exact Nat.div_add_mod n b
theorem digs_len_ge {b : Nat} (hb : 2 ≤ b) (n l : Nat) : l ≤ (digs b n l).length := by
  refine digs_ind hb (P := fun n l => l ≤ (digs b n l).length) ?_ ?_ n l
  · simp
  · intro n l h ih
    rw [digs_step hb h, List.length_append, List.length_singleton]; omega
theorem digs_len_le {b : Nat} (hb : 2 ≤ b) (n l : Nat) : ∀ k, n < b ^ k → l ≤ k → (digs b n l).length ≤ k := by
  refine digs_ind hb (P := fun n l => ∀ k, n < b ^ k → l ≤ k → (digs b n l).length ≤ k) ?_ ?_ n l
  · intro k _ _; rw [digs_nil]; simp
  · intro n l h ih k h1 h2
    rw [digs_step hb h, List.length_append, List.length_singleton]
    match k with
    | 0 => simp at h1; omega
    | k + 1 =>
      have := ih k (by rw [Nat.div_lt_iff_lt_mul (by omega)]; rwa [Nat.pow_succ] at h1) (by omega)
      omega
/-- longer than asked: no nought ahead -/
theorem digs_len_low {b : Nat} (hb : 2 ≤ b) (n l : Nat) : l < (digs b n l).length → b ^ ((digs b n l).length - 1) ≤ n := by
  refine digs_ind hb (P := fun n l => l < (digs b n l).length → b ^ ((digs b n l).length - 1) ≤ n) ?_ ?_ n l
  · rw [digs_nil]; simp
  · intro n l h ih h1
    rw [digs_step hb h] at h1 ⊢
    rw [List.length_append, List.length_singleton] at h1 ⊢
    rw [Nat.add_sub_cancel]
    by_cases q : l - 1 < (digs b (n / b) (l - 1)).length
    · have h2 := ih q
      have h3 : (digs b (n / b) (l - 1)).length = (digs b (n / b) (l - 1)).length - 1 + 1 := by omega
      rw [h3, Nat.pow_succ]
      have h4 := Nat.mul_le_mul_right b h2
      have h5 := Nat.div_mul_le_self n b
      omega
    · have : (digs b (n / b) (l - 1)).length = 0 := by omega
      rw [this, Nat.pow_zero]
      rcases h with h | h
      · exact h
      · omega

end Mine

-- part h
namespace Mine
abbrev PW : Program := PySem.Challenge.pw_pp0009_01
noncomputable def restN : List Str := ["AdaError", "LexFault", "AdaRaise", "RESERVED", "is_reserved", "GREATEST", "ratio_divisor", "make_ratio", "SMALL_LETTERS", "FIGURES", "BASED_FIGURES", "COMPOUNDS", "SINGLES", "GAPS", "MOST_FIGURES", "MOST_POWER", "small_sign", "is_name_letter", "is_name_part", "is_graphic", "name_token", "read_numeral", "power_of", "number_token", "string_token", "is_prefix", "tick_token", "delimiter_token", "one_token", "remark_behind", "tokens_of", "LITERAL_BASES", "MOST_PLACES", "FIGURE_SIGNS", "figures_of", "show_based", "show_whole", "show_scaled", "show_real", "show_literal", "_law_common", "_law_number", "_law_is_worth"].map Str.ofString
noncomputable def VW : Program := view PySem.Challenge.pw_pp0009_01 [49]
noncomputable def ent (P : Params) (x : String) (t : Nat) (v : Value) : DictEntry := ⟨PyData.keyHash P (Str.ofString x), .str (Str.ofString x) t, v⟩
noncomputable def fnO (i : Nat) (md : String) (tk code : Nat) : Obj := match PW.main.body[i]? with
  | some (.FunctionDef name args body _ _ _ scope _ _ _) => ⟨.type "function", none, .func { name := name, qualname := name, params := args, body := .stmts body, scope := scope, globals := 3, closure := [], defaults := .none, kwdefaults := .none, pyModule := .str (Str.ofString md) tk, code := .ref code }, #[]⟩
  | _ => default
noncomputable def codeO (n : String) (t l k r x : Nat) : Obj := ⟨.type "code", none, .fields #[.str (Str.ofString n) t, .str (Str.ofString n) (t + 1), .str (Str.ofString "/claim/cut.py") (t + 2), .int l 0, .int k 0, .int 0 0, .int 0 0, .int 3 0, .ref r, .bool true, .int 181 0, .ref (r + 1), .none, .ref (r + 2), .ref (r + 3), .ref (r + 4), .int x 0, .int l 0, .str (Str.ofString "/claim/cut.py") (x + 1)], #[]⟩
noncomputable def globO (P : Params) : Obj := ⟨.type "dict", none, .dict (ent P "__name__" 165 (.str (Str.ofString "law_pp0009_01") 644) ::
  ent P "__doc__" 166 (.none) ::
  ent P "__package__" 167 (.none) ::
  ent P "__loader__" 168 (.builtin "__main__.__loader__#opaque") ::
  ent P "__spec__" 169 (.none) ::
  ent P "__annotations__" 170 (.ref 6) ::
  ent P "__builtins__" 171 (.ref 4) ::
  ent P "__file__" 173 (.str (Str.ofString "/claim/cut.py") 172) ::
  ent P "__cached__" 174 (.none) ::
  ent P "AdaError" 217 (.ref 31) ::
  ent P "LexFault" 243 (.ref 51) ::
  ent P "AdaRaise" 272 (.ref 70) ::
  ent P "RESERVED" 344 (.ref 73) ::
  ent P "is_reserved" 351 (.ref 80) ::
  ent P "GREATEST" 357 (.int 10000000000000000000000000000000000000000000000000000000000000000000000000000000000000000000000000000000000000000000000000000000000000000000000000000000000000000000000000000000000000000000000000000000000000000000000000000000000000000000000000000000000000000000000000000000000000000000000000000000000000000000000000000000000000000000000000000000000000000000000000000000000000000000000000000000000000000000000000000000000000000000000000000000000000000000000000000000000000000000000000000000000000000000000000000000000000000000000000000000000000000000000000000000000000000000000000000000000000000000000000000000000000000000000000000000000000000000000000000000000000000000000000000000000000000000000000000 356) ::
  ent P "ratio_divisor" 365 (.ref 87) ::
  ent P "make_ratio" 374 (.ref 94) ::
  ent P "SMALL_LETTERS" 378 (.str (Str.ofString "abcdefghijklmnopqrstuvwxyz") 377) ::
  ent P "FIGURES" 380 (.str (Str.ofString "0123456789") 379) ::
  ent P "BASED_FIGURES" 382 (.str (Str.ofString "0123456789abcdef") 381) ::
  ent P "COMPOUNDS" 393 (.ref 95) ::
  ent P "SINGLES" 395 (.str (Str.ofString "&()*+,-./:;<=>|") 394) ::
  ent P "GAPS" 397 (.str (Str.ofString " \t\x0d\n\x0c\x0b") 396) ::
  ent P "MOST_FIGURES" 399 (.int 80 398) ::
  ent P "MOST_POWER" 401 (.int 400 400) ::
  ent P "small_sign" 408 (.ref 102) ::
  ent P "is_name_letter" 415 (.ref 109) ::
  ent P "is_name_part" 422 (.ref 116) ::
  ent P "is_graphic" 429 (.ref 123) ::
  ent P "name_token" 440 (.ref 130) ::
  ent P "read_numeral" 454 (.ref 137) ::
  ent P "power_of" 468 (.ref 144) ::
  ent P "number_token" 487 (.ref 151) ::
  ent P "string_token" 498 (.ref 158) ::
  ent P "is_prefix" 508 (.ref 165) ::
  ent P "tick_token" 518 (.ref 172) ::
  ent P "delimiter_token" 527 (.ref 179) ::
  ent P "one_token" 538 (.ref 186) ::
  ent P "remark_behind" 547 (.ref 193) ::
  ent P "tokens_of" 558 (.ref 200) ::
  ent P "LITERAL_BASES" 576 (.ref 201) ::
  ent P "MOST_PLACES" 578 (.int 480 577) ::
  ent P "FIGURE_SIGNS" 580 (.str (Str.ofString "0123456789abcdef") 579) ::
  ent P "figures_of" 590 (.ref 208) ::
  ent P "show_based" 600 (.ref 215) ::
  ent P "show_whole" 610 (.ref 222) ::
  ent P "show_scaled" 625 (.ref 229) ::
  ent P "show_real" 636 (.ref 236) ::
  ent P "show_literal" 643 (.ref 243) ::
  ent P "_law_common" 653 (.ref 250) ::
  ent P "_law_number" 668 (.ref 257) ::
  ent P "_law_is_worth" 689 (.ref 264) ::
  ent P "law" 701 (.ref 271) :: []).toArray 53, #[]⟩
noncomputable def KW : Params → Frag := fun P => (nat_lit 3, globO P) ::
  (nat_lit 86, codeO "ratio_divisor" 358 25 2 81 363) ::
  (nat_lit 87, fnO 9 "adacore.rationals" 352 86) ::
  (nat_lit 93, codeO "make_ratio" 366 31 2 88 372) ::
  (nat_lit 94, fnO 10 "adacore.rationals" 352 93) ::
  (nat_lit 101, codeO "small_sign" 402 52 1 96 406) ::
  (nat_lit 102, fnO 20 "adacore.lexer" 375 101) ::
  (nat_lit 108, codeO "is_name_letter" 409 56 1 103 413) ::
  (nat_lit 109, fnO 21 "adacore.lexer" 375 108) ::
  (nat_lit 115, codeO "is_name_part" 416 58 1 110 420) ::
  (nat_lit 116, fnO 22 "adacore.lexer" 375 115) ::
  (nat_lit 136, codeO "read_numeral" 441 73 4 131 452) ::
  (nat_lit 137, fnO 25 "adacore.lexer" 375 136) ::
  (nat_lit 143, codeO "power_of" 455 94 3 138 466) ::
  (nat_lit 144, fnO 26 "adacore.lexer" 375 143) ::
  (nat_lit 150, codeO "number_token" 469 103 3 145 485) ::
  (nat_lit 151, fnO 27 "adacore.lexer" 375 150) ::
  (nat_lit 185, codeO "one_token" 528 157 4 180 536) ::
  (nat_lit 186, fnO 32 "adacore.lexer" 375 185) ::
  (nat_lit 199, codeO "tokens_of" 548 173 1 194 556) ::
  (nat_lit 200, fnO 34 "adacore.lexer" 375 199) ::
  (nat_lit 201, ⟨.type "tuple", none, .seq [.int 10 561, .int 2 562, .int 3 563, .int 4 564, .int 5 565, .int 6 566, .int 7 567, .int 8 568, .int 9 569, .int 11 570, .int 12 571, .int 13 572, .int 14 573, .int 15 574, .int 16 575].toArray 0, #[]⟩) ::
  (nat_lit 207, codeO "figures_of" 581 192 3 202 588) ::
  (nat_lit 208, fnO 39 "adacore.listexpr" 559 207) ::
  (nat_lit 214, codeO "show_based" 591 198 3 209 598) ::
  (nat_lit 215, fnO 40 "adacore.listexpr" 559 214) ::
  (nat_lit 221, codeO "show_whole" 601 205 1 216 608) ::
  (nat_lit 222, fnO 41 "adacore.listexpr" 559 221) ::
  (nat_lit 228, codeO "show_scaled" 611 212 3 223 623) ::
  (nat_lit 229, fnO 42 "adacore.listexpr" 559 228) ::
  (nat_lit 235, codeO "show_real" 626 224 2 230 634) ::
  (nat_lit 236, fnO 43 "adacore.listexpr" 559 235) ::
  (nat_lit 242, codeO "show_literal" 637 234 1 237 641) ::
  (nat_lit 243, fnO 44 "adacore.listexpr" 559 242) ::
  (nat_lit 249, codeO "_law_common" 646 245 2 244 651) ::
  (nat_lit 250, fnO 46 "law_pp0009_01" 644 249) ::
  (nat_lit 256, codeO "_law_number" 654 249 1 251 666) ::
  (nat_lit 257, fnO 47 "law_pp0009_01" 644 256) ::
  (nat_lit 263, codeO "_law_is_worth" 669 261 4 258 687) ::
  (nat_lit 264, fnO 48 "law_pp0009_01" 644 263) ::
  (nat_lit 270, codeO "law" 690 282 1 265 699) ::
  (nat_lit 271, fnO 49 "law_pp0009_01" 644 270) ::
  []
noncomputable def asW : List Addr := nat_lit 3 :: nat_lit 86 :: nat_lit 87 :: nat_lit 93 :: nat_lit 94 :: nat_lit 101 :: nat_lit 102 :: nat_lit 108 :: nat_lit 109 :: nat_lit 115 :: nat_lit 116 :: nat_lit 136 :: nat_lit 137 :: nat_lit 143 :: nat_lit 144 :: nat_lit 150 :: nat_lit 151 :: nat_lit 185 :: nat_lit 186 :: nat_lit 199 :: nat_lit 200 :: nat_lit 201 :: nat_lit 207 :: nat_lit 208 :: nat_lit 214 :: nat_lit 215 :: nat_lit 221 :: nat_lit 222 :: nat_lit 228 :: nat_lit 229 :: nat_lit 235 :: nat_lit 236 :: nat_lit 242 :: nat_lit 243 :: nat_lit 249 :: nat_lit 250 :: nat_lit 256 :: nat_lit 257 :: nat_lit 263 :: nat_lit 264 :: nat_lit 270 :: nat_lit 271 :: []

end Mine

-- part base
namespace Mine
/-- a contract: the def at f, called on vs by a def k frames under the lid, hands back v with Post v ex, ex what it leaves made -/
def Con (w : World) (mean : ExcName → Option Value) (mg mb : Str → Option Value) (f : Addr) (k : Nat) (vs : List Value) (Post : Value → List (Addr × Obj) → Prop) : Prop :=
  ∀ (dp un : Nat) (gd : Option (List Code)) (cn : Str) (cs : Scope) (a : Addr) (ccd : Value) (cl : List (Str × Addr)) (outer : List Env) (A₀ : Around) (base h₀ : Heap) (L : Addr) (m : Str → Option Value) (news : List (Addr × Obj)) (s : Shared) (Q E : Value → Shared → Prop),
    Below A₀ base outer h₀ → Fr h₀ L s.heap m → (KW w.params).In h₀ → News h₀ L s.heap news → Top VW (looseW VW restN) mean mg mb h₀ → cs.kind = .function →
    dp + k < recursionLimit → un + 8 * k < cLine →
    (∀ v ex h' tk', Post v ex → (∀ p ∈ news, ∀ q ∈ ex, p.1 < q.1) → Fr h₀ L h' m → News h₀ L h' (ex ++ news) → Q v { s with heap := h', toks := tk' }) →
    wpAny (model PySem.Challenge.rw_pp0009_01.row.prog w) (ktrTop dp un gd cn cs L a ccd cl outer) (call (.ref f) vs) Q E s
/-- a text's end -/
theorem ret0 {news : List (Addr × Obj)} {s : Shared} {Q : Value → Shared → Prop} {Post : Value → List (Addr × Obj) → Prop} {h₀ h' : Heap} {L : Addr} {m : Str → Option Value} {v : Value} {tk' : Nat} {news' : List (Addr × Obj)}
    (hret : ∀ v ex h' tk', Post v ex → (∀ p ∈ news, ∀ q ∈ ex, p.1 < q.1) → Fr h₀ L h' m → News h₀ L h' (ex ++ news) → Q v { s with heap := h', toks := tk' })
    (hp : Post v []) (F : Fr h₀ L h' m) (N : News h₀ L h' news') (hs : ∀ p ∈ news, p ∈ news') : Q v { s with heap := h', toks := tk' } :=
  hret v [] h' tk' hp (fun _ _ _ hq => nomatch hq) F (fun p hp => N p (hs p hp))
section
variable {prog : Program} {w : World} {A : Around} {E : Value → Shared → Prop} {s : Shared} {value slice : PySem.Expr} {x : PySem.Str} {t u : Tok} {i : Int} {Q : Value → Shared → Prop}
theorem fig_item_at : ∀ d : Nat, d < 16 → Txt.item (Str.ofString "0123456789abcdef") (d : Int) = S [sgn d] := by decide
theorem fig_item (h0 : 0 ≤ i) (h1 : i < 16) (h : Q (.str (S [sgn i.toNat]) s.toks) { s with toks := s.toks + 1 })
    (hs : subscripted slice false (.str (Str.ofString "0123456789abcdef") t) (.int i u) = operate [.str (Str.ofString "0123456789abcdef") t, .int i u] (getItem (.str (Str.ofString "0123456789abcdef") t) (.int i u)) := by with_unfolding_all rfl)
    (ht : ∀ r, letTemporaryGo value (.str (Str.ofString "0123456789abcdef") t) r = pure () := by intro _; with_unfolding_all rfl) :
    wpAny (model prog w) A (subscriptTail value slice (.str (Str.ofString "0123456789abcdef") t) (.int i u)) Q E s :=
  KXi.item (n := 16) (by decide) (by omega) (by omega) (by decide) (fun _ => by
    have e := fig_item_at i.toNat (by omega)
    rw [show ((i.toNat : Nat) : Int) = i by omega] at e
    rw [e]; exact h) hs ht
theorem add_S {a b : List Nat} {x y : Str} (hx : x = S a) (hy : y = S b) (hsz : a.length + b.length ≤ 100000) (h : ∀ t' tk, Q (.str (S (a ++ b)) t') { s with toks := tk }) :
    wpAny (model prog w) A (binaryOp .Add (.str x t) (.str y u)) Q E s := by
  subst hx hy
  refine add_str (fun t' tk => ?_) (by rw [S_len, S_len, sizeLine_eq]; omega)
  rw [S_app]; exact h t' tk
theorem len_S {a : List Nat} (hsz : a.length ≤ 100000) (h : ∀ t' tk, Q (.int (a.length : Int) t') { s with toks := tk }) : wpAny (model prog w) A (call (.builtin "len") [.str (S a) t]) Q E s := by
  refine P.len_str (by rw [S_len]; omega) ?_
  rw [S_len]; exact h _ _
end
theorem Con.use {w : World} {mean : ExcName → Option Value} {mg mb : Str → Option Value} {f : Addr} {k : Nat} {vs : List Value} {Post : Value → List (Addr × Obj) → Prop} {dp un : Nat} {gd : Option (List Code)} {cn : Str} {cs : Scope} {a : Addr} {ccd : Value} {cl : List (Str × Addr)} {outer : List Env} {A₀ : Around} {base h₀ : Heap} {L : Addr} {m : Str → Option Value} {news : List (Addr × Obj)} {s : Shared} {Q E : Value → Shared → Prop}
    (C : Con w mean mg mb f k vs Post) (B : Below A₀ base outer h₀) (F : Fr h₀ L s.heap m) (X : (KW w.params).In h₀) (N : News h₀ L s.heap news) (T : Top VW (looseW VW restN) mean mg mb h₀) (hk : cs.kind = .function)
    (hd : dp + k < recursionLimit) (hu : un + 8 * k < cLine)
    (ret : ∀ v ex h' tk', Post v ex → (∀ p ∈ news, ∀ q ∈ ex, p.1 < q.1) → Fr h₀ L h' m → News h₀ L h' (ex ++ news) → Q v { s with heap := h', toks := tk' }) :
    wpAny (model PySem.Challenge.rw_pp0009_01.row.prog w) (ktrTop dp un gd cn cs L a ccd cl outer) (call (.ref f) vs) Q E s :=
  C _ _ _ _ _ _ _ _ _ _ _ _ _ _ _ _ _ _ B F X N T hk hd hu ret
theorem lit_nil : Str.ofString "" = S [] := by decide
theorem lit_hash : Str.ofString "#" = S [35] := by decide
theorem lit_E : Str.ofString "E" = S [69] := by decide
theorem lit_minus : Str.ofString "-" = S [45] := by decide
theorem lit_dot : Str.ofString "." = S [46] := by decide
theorem lit_0 : Str.ofString "0" = S [48] := by decide
theorem strEq {a b : List Nat} {t : Tok} (h : a = b) : Value.str (S a) t = Value.str (S b) t := by rw [h]
theorem strEq' {x : Str} {a b : List Nat} {t : Tok} (hx : x = S a) (h : a = b) : Value.str x t = Value.str (S b) t := by rw [hx, h]
theorem ret1 {news : List (Addr × Obj)} {s : Shared} {Q : Value → Shared → Prop} {Post : Value → List (Addr × Obj) → Prop} {h₀ h' : Heap} {L : Addr} {m : Str → Option Value} {v : Value} {tk' : Nat} {news' : List (Addr × Obj)} {D : Addr} {o : Obj}
    (hret : ∀ v ex h' tk', Post v ex → (∀ p ∈ news, ∀ q ∈ ex, p.1 < q.1) → Fr h₀ L h' m → News h₀ L h' (ex ++ news) → Q v { s with heap := h', toks := tk' })
    (hp : Post v [(D, o)]) (F : Fr h₀ L h' m) (N : News h₀ L h' news') (hD : (D, o) ∈ news') (hs : ∀ p ∈ news, p ∈ news') (lt : ∀ p ∈ news, p.1 < D) : Q v { s with heap := h', toks := tk' } :=
  hret v [(D, o)] h' tk' hp (fun p hp q hq => by rw [List.mem_singleton.mp hq]; exact lt p hp) F (fun p hp => by
    rcases List.mem_cons.mp hp with rfl | hp
    · exact N _ hD
    · exact N p (hs p hp))

end Mine

-- part txt
namespace Mine
-- slices of S
theorem idx_clamp {a b len : Nat} (hab : a ≤ b) : Builtin.Str.strSliceIndices (some (a : Int)) (some (b : Int)) 1 len = Builtin.Str.strSliceIndices (some ((min a len : Nat) : Int)) (some ((min b len : Nat) : Int)) 1 len := by
  have h1 : ¬ ((a : Int) < 0) := by omega
  have h2 : ¬ ((b : Int) < 0) := by omega
  have h3 : ¬ (((min a len : Nat) : Int) < 0) := by omega
  have h4 : ¬ (((min b len : Nat) : Int) < 0) := by omega
  have e1 : max (0 : Int) (min (a : Int) (len : Int)) = max (0 : Int) (min ((min a len : Nat) : Int) (len : Int)) := by omega
  have e2 : max (0 : Int) (min (b : Int) (len : Int)) = max (0 : Int) (min ((min b len : Nat) : Int) (len : Int)) := by omega
  simp only [Builtin.Str.strSliceIndices, h1, h2, h3, h4, if_false, e1, e2, show ((1 : Int) > 0) = True from by simp, if_true]
theorem slice_nat (l : List Nat) {a b : Nat} (hab : a ≤ b) : Txt.slice (S l) (some (a : Int)) (some (b : Int)) = S ((l.drop a).take (b - a)) := by
  have e : StrLaws.sliceText (S l) (some (a : Int)) (some (b : Int)) = StrLaws.sliceText (S l) (some ((min a l.length : Nat) : Int)) (some ((min b l.length : Nat) : Int)) := by
    unfold StrLaws.sliceText
    rw [S_len, idx_clamp hab]
  show StrLaws.sliceText (S l) _ _ = _
  rw [e, StrLaws.sliceText_nat (S l) (by omega) (by rw [S_len]; omega), S_list]
  show S _ = S _
  congr 1
  by_cases h : a ≤ l.length
  · rw [Nat.min_eq_left h]
    by_cases h2 : b ≤ l.length
    · rw [Nat.min_eq_left h2]
    · rw [Nat.min_eq_right (by omega)]
      rw [List.take_of_length_le (by rw [List.length_drop]; omega), List.take_of_length_le (by rw [List.length_drop]; omega)]
  · rw [List.drop_of_length_le (by omega : l.length ≤ a), List.drop_of_length_le (by omega)]
    simp
theorem slice_ss (l : List Nat) {i j : Int} (h0 : 0 ≤ i) (h : i ≤ j) : Txt.slice (S l) (some i) (some j) = S ((l.drop i.toNat).take (j - i).toNat) := by
  obtain ⟨a, rfl⟩ := Int.eq_ofNat_of_zero_le h0
  obtain ⟨b, rfl⟩ := Int.eq_ofNat_of_zero_le (Int.le_trans h0 h)
  rw [slice_nat l (by omega)]
  congr 2
  omega
theorem slice_sn (l : List Nat) {i : Int} (h0 : 0 ≤ i) : Txt.slice (S l) (some i) none = S (l.drop i.toNat) := by
  have e : Txt.slice (S l) (some i) none = Txt.slice (S l) (some i) (some (((max i.toNat l.length : Nat)) : Int)) := by
    show StrLaws.sliceText (S l) _ _ = StrLaws.sliceText (S l) _ _
    obtain ⟨a, rfl⟩ := Int.eq_ofNat_of_zero_le h0
    unfold StrLaws.sliceText
    rw [S_len, StrLaws.sliceIdx_none_hi]
    have e1 : Builtin.Str.strSliceIndices (some (a : Int)) (some (((max a l.length : Nat)) : Int)) 1 l.length = Builtin.Str.strSliceIndices (some (a : Int)) (some (l.length : Int)) 1 l.length := by
      have h2 : ¬ (((max a l.length : Nat) : Int) < 0) := by omega
      have h3 : ¬ ((l.length : Int) < 0) := by omega
      have e2 : max (0 : Int) (min ((max a l.length : Nat) : Int) (l.length : Int)) = max (0 : Int) (min (l.length : Int) (l.length : Int)) := by omega
      simp only [Builtin.Str.strSliceIndices, h2, h3, if_false, e2, show ((1 : Int) > 0) = True from by simp, if_true]
    show _ = (if (1 : Int) == 1 && (Builtin.Str.strSliceIndices (some (a : Int)) (some (((max a l.length : Nat)) : Int)) 1 l.length).length == l.length then S l else ⟨((Builtin.Str.strSliceIndices (some (a : Int)) (some (((max a l.length : Nat)) : Int)) 1 l.length).filterMap ((S l).cps[·]?)).toArray⟩)
    rw [e1]
  rw [e, slice_ss l h0 (by omega)]
  congr 1
  rw [List.take_of_length_le]
  rw [List.length_drop]; omega
theorem slice_ns (l : List Nat) {j : Int} (h0 : 0 ≤ j) : Txt.slice (S l) none (some j) = S (l.take j.toNat) := by
  have e : Txt.slice (S l) none (some j) = Txt.slice (S l) (some 0) (some j) := by
    show StrLaws.sliceText (S l) _ _ = StrLaws.sliceText (S l) _ _
    unfold StrLaws.sliceText
    rw [StrLaws.sliceIdx_none_lo]
  rw [e, slice_ss l (Int.le_refl 0) h0]
  simp
theorem mul_of (c : Nat) {n : Int} (h0 : 0 ≤ n) : Txt.mul (S [c]) n = S (List.replicate n.toNat c) := by
  obtain ⟨k, rfl⟩ := Int.eq_ofNat_of_zero_le h0
  unfold Txt.mul
  by_cases h1 : (k : Int) < 1
  · rw [if_pos h1]; have : k = 0 := by omega
    subst this; rfl
  · rw [if_neg h1]
    by_cases h2 : k = 1
    · subst h2; rfl
    · rw [if_neg (by simp [S, Str.length]; omega)]
      have key : ∀ (m : Nat) (acc : Array Nat), (List.replicate m (#[c] : Array Nat)).foldl (· ++ ·) acc = acc ++ (List.replicate m c).toArray := by
        intro m
        induction m with
        | zero => intro acc; simp
        | succ m ih => intro acc; rw [List.replicate_succ, List.foldl_cons, ih, List.replicate_succ]; apply Array.toList_inj.mp; simp
      show Str.mk ((List.replicate k (#[c] : Array Nat)).foldl (· ++ ·) #[]) = S _
      rw [key]
      simp [S]
theorem item_of {l : List Nat} {i : Int} {c : Nat} (h0 : 0 ≤ i) (hc : l[i.toNat]? = some c) : Txt.item (S l) i = S [c] := by
  unfold Txt.item Txt.charAt
  rw [StrLaws.at_nonneg (n := c) h0 (by simpa [S] using hc)]
  rfl
theorem contains_one (x : Str) (c : Nat) : Txt.contains x (S [c]) = decide (c ∈ x.cps.toList) := StrLaws.found_one x c
section
variable {prog : Program} {w : World} {A : Around} {E : Value → Shared → Prop} {s : Shared} {value slice : PySem.Expr} {l : List Nat} {t u : Tok} {i j : Int} {Q : Value → Shared → Prop} {h₀ : Heap} {L : Addr} {m : PySem.Str → Option Value} {news : List (Addr × Obj)}
theorem item_S {c : Nat} (h0 : 0 ≤ i) (hc : l[i.toNat]? = some c) (hsz : l.length ≤ 100000) (h : ∀ t' tk, Q (.str (S [c]) t') { s with toks := tk })
    (hs : subscripted slice false (.str (S l) t) (.int i u) = operate [.str (S l) t, .int i u] (getItem (.str (S l) t) (.int i u)) := by with_unfolding_all rfl)
    (ht : ∀ r, letTemporaryGo value (.str (S l) t) r = pure () := by intro _; with_unfolding_all rfl) :
    wpAny (model prog w) A (subscriptTail value slice (.str (S l) t) (.int i u)) Q E s := by
  have hlt : i.toNat < l.length := (List.getElem?_eq_some_iff.mp hc).1
  refine KXi.item (n := l.length) (S_len l) (by omega) (by omega) (by omega) (fun _ => ?_) hs ht
  rw [item_of h0 hc]; exact h _ _
theorem slice_S_ss {ui uj : Tok} (hF : Fr h₀ L s.heap m) (hN : News h₀ L s.heap news) (h0 : 0 ≤ i) (hij : i ≤ j) (hsz : l.length ≤ 100000) (h : ∀ h' t' k, Fr h₀ L h' m → News h₀ L h' news → Q (.str (S ((l.drop i.toNat).take (j - i).toNat)) t') { s with heap := h', toks := k })
    (hs : subscripted slice false (.str (S l) t) (.ref s.heap.objs.size) = operate [.ref s.heap.objs.size, .str (S l) t] (getItem (.str (S l) t) (.ref s.heap.objs.size)) := by with_unfolding_all rfl)
    (ht : ∀ r, letTemporaryGo value (.str (S l) t) r = pure () := by intro _; with_unfolding_all rfl) :
    wpAny (model prog w) A (subscriptTail value slice (.str (S l) t) (.ref s.heap.objs.size)) Q E { s with heap := s.heap.push { cls := .type "slice", data := .fields #[.int i ui, .int j uj, .none] } } :=
  slice_strN_ss hF hN (fun h' t' k F N => by rw [slice_ss l h0 hij]; exact h h' t' k F N) hs ht (by rw [S_len, sizeLine_eq]; omega)
theorem slice_S_sn {ui : Tok} (hF : Fr h₀ L s.heap m) (hN : News h₀ L s.heap news) (h0 : 0 ≤ i) (hsz : l.length ≤ 100000) (h : ∀ h' t' k, Fr h₀ L h' m → News h₀ L h' news → Q (.str (S (l.drop i.toNat)) t') { s with heap := h', toks := k })
    (hs : subscripted slice false (.str (S l) t) (.ref s.heap.objs.size) = operate [.ref s.heap.objs.size, .str (S l) t] (getItem (.str (S l) t) (.ref s.heap.objs.size)) := by with_unfolding_all rfl)
    (ht : ∀ r, letTemporaryGo value (.str (S l) t) r = pure () := by intro _; with_unfolding_all rfl) :
    wpAny (model prog w) A (subscriptTail value slice (.str (S l) t) (.ref s.heap.objs.size)) Q E { s with heap := s.heap.push { cls := .type "slice", data := .fields #[.int i ui, .none, .none] } } :=
  slice_strN_sn hF hN (fun h' t' k F N => by rw [slice_sn l h0]; exact h h' t' k F N) hs ht (by rw [S_len, sizeLine_eq]; omega)
theorem slice_S_ns {uj : Tok} (hF : Fr h₀ L s.heap m) (hN : News h₀ L s.heap news) (h0 : 0 ≤ j) (hsz : l.length ≤ 100000) (h : ∀ h' t' k, Fr h₀ L h' m → News h₀ L h' news → Q (.str (S (l.take j.toNat)) t') { s with heap := h', toks := k })
    (hs : subscripted slice false (.str (S l) t) (.ref s.heap.objs.size) = operate [.ref s.heap.objs.size, .str (S l) t] (getItem (.str (S l) t) (.ref s.heap.objs.size)) := by with_unfolding_all rfl)
    (ht : ∀ r, letTemporaryGo value (.str (S l) t) r = pure () := by intro _; with_unfolding_all rfl) :
    wpAny (model prog w) A (subscriptTail value slice (.str (S l) t) (.ref s.heap.objs.size)) Q E { s with heap := s.heap.push { cls := .type "slice", data := .fields #[.none, .int j uj, .none] } } :=
  slice_strN_ns hF hN (fun h' t' k F N => by rw [slice_ns l h0]; exact h h' t' k F N) hs ht (by rw [S_len, sizeLine_eq]; omega)
theorem mul_S {x : PySem.Str} {c : Nat} {n : Int} (hx : x = S [c]) (h0 : 0 ≤ n) (h1 : n ≤ 100000) (h : ∀ t' tk, Q (.str (S (List.replicate n.toNat c)) t') { s with toks := tk }) :
    wpAny (model prog w) A (binaryOp .Mult (.str x t) (.int n u)) Q E s := by
  subst hx
  refine KXi.mul (n := 1) (S_len _) (by decide) (by omega) (by omega) (fun t' k _ _ => ?_)
  rw [mul_of c h0]; exact h _ _
theorem eq_S {a b : List Nat} {x y : PySem.Str} (hx : x = S a) (hy : y = S b) (h : Q (.bool (decide (a = b))) s) : wpAny (model prog w) A (compareOp .Eq (.str x t) (.str y u)) Q E s := by
  subst hx hy
  refine P.eq_str ?_
  rw [S_list, S_list]
  have : (a == b) = decide (a = b) := by rw [Bool.eq_iff_iff]; simp
  rw [this]; exact h
theorem ne_S {a b : List Nat} {x y : PySem.Str} (hx : x = S a) (hy : y = S b) (h : Q (.bool (decide (a ≠ b))) s) : wpAny (model prog w) A (compareOp .NotEq (.str x t) (.str y u)) Q E s := by
  subst hx hy
  refine P.ne_str ?_
  rw [S_list, S_list]
  have : (a != b) = decide (a ≠ b) := by rw [Bool.eq_iff_iff]; simp
  rw [this]; exact h
end
section
variable {prog : Program} {w : World} {A : Around} {E : Value → Shared → Prop} {s : Shared} {t u : Tok} {Q : Value → Shared → Prop}
theorem le_S {a c : Nat} {x y : PySem.Str} (hx : x = S [a]) (hy : y = S [c]) (h : Q (.bool (decide (a ≤ c))) s) : wpAny (model prog w) A (compareOp .LtE (.str x t) (.str y u)) Q E s := by
  subst hx hy
  refine P.le_str ?_
  have e : (!(decide ((S [c]).cps.toList < (S [a]).cps.toList))) = decide (a ≤ c) := by
    rw [S_list, S_list, Bool.eq_iff_iff]
    simp [List.cons_lt_cons_iff]
  rw [e]; exact h
theorem le_S0 {a : Nat} {x y : PySem.Str} (hx : x = S [a]) (hy : y = S []) (h : Q (.bool false) s) : wpAny (model prog w) A (compareOp .LtE (.str x t) (.str y u)) Q E s := by
  subst hx hy
  refine P.le_str ?_
  have e : (!(decide ((S []).cps.toList < (S [a]).cps.toList))) = false := by
    rw [S_list, S_list]; simp
  rw [e]; exact h
theorem ord_S {c : Nat} (h : ∀ t' tk, Q (.int (c : Int) t') { s with toks := tk }) : wpAny (model prog w) A (call (.builtin "ord") [.str (S [c]) t]) Q E s := P.ord_of_char (h _ _)
theorem chr_S {i : Int} (h0 : 0 ≤ i) (h1 : i ≤ 1114111) (h : ∀ t' tk, Q (.str (S [i.toNat]) t') { s with toks := tk }) : wpAny (model prog w) A (call (.builtin "chr") [.int i t]) Q E s := chr_of_range h0 h1 (h _ _)
theorem in_S {c : Nat} {x y : PySem.Str} (hy : y = S [c]) (h : Q (.bool (decide (c ∈ x.cps.toList))) s) : wpAny (model prog w) A (compareOp .In (.str y u) (.str x t)) Q E s := by
  subst hy
  refine SB.contains ?_
  rw [contains_one]; exact h
end
theorem lit_A : Str.ofString "A" = S [65] := by decide
theorem lit_Z : Str.ofString "Z" = S [90] := by decide
theorem lit_e : Str.ofString "e" = S [101] := by decide
theorem lit_low : Str.ofString "_" = S [95] := by decide
theorem lit_plus : Str.ofString "+" = S [43] := by decide
theorem lit_quote : Str.ofString "\"" = S [34] := by decide
theorem lit_tick : Str.ofString "'" = S [39] := by decide
theorem lit_nl : Str.ofString "\n" = S [10] := by decide
theorem lit_dd : Str.ofString "--" = S [45, 45] := by decide
theorem lit_int : Str.ofString "int" = S [105, 110, 116] := by decide
theorem lit_real : Str.ofString "real" = S [114, 101, 97, 108] := by decide
def lowC (c : Nat) : Nat := if 65 ≤ c ∧ c ≤ 90 then c + 32 else c

end Mine

-- part loops
namespace Mine
-- a loop over a tuple of ints that stands ahead of the call, by what holds of its turns
def TupEnd (h₀ : Heap) (L : Addr) (own : List (Addr × Obj)) (stored : List Str) (m₀ : Str → Option Value) (P : Nat → Prop) (i : Nat) (s₁ s₂ : Shared) : Prop :=
  ∃ h' tk m' news', s₂ = { s₁ with heap := h', toks := tk } ∧ Fr h₀ L h' m' ∧ News h₀ L h' news' ∧ (∀ p ∈ own, p ∈ news') ∧ (∀ z, stored.contains z = false → m' z = m₀ z) ∧ P i
def TupPost (h₀ : Heap) (L : Addr) (own : List (Addr × Obj)) (stored : List Str) (m₀ : Str → Option Value) (P : Nat → Prop) (Q : Flow → Shared → Prop) (i : Nat) (s₁ : Shared) (f : Flow) (s₂ : Shared) : Prop :=
  match f with
  | .ret v => Q (.ret v) s₂
  | .brk => Q .next s₂
  | _ => TupEnd h₀ L own stored m₀ P i s₁ s₂
theorem TupEnd.intro {h₀ : Heap} {L : Addr} {own : List (Addr × Obj)} {stored : List Str} {m₀ m' : Str → Option Value} {P : Nat → Prop} {i : Nat} {s₁ : Shared} {h' : Heap} {tk : Nat} {news' : List (Addr × Obj)}
    (F : Fr h₀ L h' m') (N : News h₀ L h' news') (hn : ∀ p ∈ own, p ∈ news') (hm : ∀ z, stored.contains z = false → m' z = m₀ z) (hp : P i) : TupEnd h₀ L own stored m₀ P i s₁ { s₁ with heap := h', toks := tk } :=
  ⟨h', tk, m', news', rfl, F, N, hn, hm, hp⟩
section
variable {prog : Program} {w : World} {A : Around} {E : Value → Shared → Prop} {s : Shared} {env : Env} {h₀ : Heap} {x : Str} {body : List Stmt} {Q : Flow → Shared → Prop}
theorem iter_tup {l : Addr} {vs : List Value} {ns : List Int} {m₀ : Str → Option Value} {news : List (Addr × Obj)} (stored : List Str) (P : Nat → Prop) (hx : stored.contains x = true)
    (hh : A.handled = none) (hl : IsTup h₀ l vs.toArray) (hi : IntsAre vs ns) (F : Fr h₀ env.locals s.heap m₀) (N : News h₀ env.locals s.heap news) (hj : P 0)
    (turn : ∀ i n t (u : Str → Option Value) h tk own, ns[i]? = some n → P i → Fr h₀ env.locals h (fun y => if y = x then some (.int n t) else if stored.contains y then u y else m₀ y) → News h₀ env.locals h (own ++ news) →
      wpAny (model prog w) A (execs body env) (TupPost h₀ env.locals (own ++ news) stored m₀ P Q (i + 1) { s with heap := h, toks := tk }) E { s with heap := h, toks := tk })
    (done : ∀ (u : Str → Option Value) h tk, P ns.length → Fr h₀ env.locals h (fun y => if stored.contains y then u y else m₀ y) → News h₀ env.locals h news → Q .next { s with heap := h, toks := tk }) :
    wpAny (model prog w) A (pyIter (.ref l)) (fun it s₂ => LoopAtV prog w A h₀ env x body Q E it s₂) E s := by
  have hls : s.heap.IsTuple l vs.toArray := Heap.IsTuple.at hl fun o e => F.keep l o e
  obtain ⟨ol, hol, _⟩ := id hl
  have hlt : l < h₀.objs.size := Heap.lt_size hol
  have hne : l ≠ s.heap.objs.size := Nat.ne_of_lt (Nat.lt_trans (Nat.lt_of_lt_of_le hlt F.above) F.ns.lt)
  refine wpAny_pyIter_tuple hls ?_
  have W := Walks.tuple (prog := prog) (w := w) hh s.heap.objs.size l hne vs.toArray
  have hlen : vs.toArray.size = ns.length := by simp [hi.length]
  rw [hlen] at W
  let J' : Nat → (Str → Option Value) → List (Addr × Obj) → Prop := fun i m₁ news₁ => news₁ = news ∧ (∀ z, stored.contains z = false → m₁ z = m₀ z) ∧ P i
  have em : ∀ {m₁ : Str → Option Value}, (∀ z, stored.contains z = false → m₁ z = m₀ z) → m₁ = fun y => if stored.contains y then m₁ y else m₀ y := fun h => by
    funext y
    cases e : stored.contains y with
    | true => simp
    | false => simp only [Bool.false_eq_true, if_false]; exact h y e
  refine ⟨_, _, _, ns.length, _, _, m₀, news, J', rfl, W, ?_, ?_, ?_, ⟨⟨_, Heap.get?_push_size _ rfl, rfl, rfl⟩, hls.at fun o e => Heap.get?_push_of_some _ e⟩, F.push _, (fun p hp => ⟨Heap.get?_push_of_some _ (N p hp).1, (N p hp).2⟩), ⟨rfl, fun _ _ => rfl, hj⟩, ?_, ?_⟩
  · intro hm
    rcases List.mem_cons.mp hm with e | hm
    · exact absurd F.ns.lt (e ▸ Nat.lt_irrefl _)
    · exact absurd (Nat.lt_of_lt_of_le hlt F.above) ((List.mem_singleton.mp hm) ▸ Nat.lt_irrefl _)
  · intro b hb
    rw [List.mem_singleton.mp hb]
    exact next_is_new F
  · intro p hp hI
    exact absurd (Heap.lt_size (N p hp).1) ((List.mem_singleton.mp hI) ▸ Nat.lt_irrefl _)
  · rintro i v m₁ news₁ s₁ own ⟨hh', tk', rfl⟩ hin hP ⟨rfl, hm, hJ⟩ hoff _ _ _ _ F₁ N₁
    have hlt' : i < ns.length := hin
    obtain ⟨t, hx'⟩ := hi.get i ns[i] (by simp [hlt'])
    have hv : v = .int ns[i] t := by
      have hP' : vs[i]? = some v := by simpa using hP
      rw [hx'] at hP'; exact (Option.some.inj hP').symm
    subst hv
    rw [em hm] at F₁
    refine wpAny_mono (turn i ns[i] t m₁ hh' tk' own (by simp [hlt']) hJ F₁ N₁) (fun f s₂ p => ?_) fun _ _ e => e
    have fin : TupEnd h₀ env.locals (own ++ news₁) stored m₀ P (i + 1) { s with heap := hh', toks := tk' } s₂ → LoopStepU h₀ env.locals [s.heap.objs.size] own (J' (i + 1)) { s with heap := hh', toks := tk' } .next s₂ := by
      rintro ⟨h', tk, m', news', e, F', N', hn, hm', hp'⟩
      exact ⟨rfl, h', tk, m', news₁, e, F', fun p hp => N' p (hn p hp), hoff, rfl, hm', hp'⟩
    cases f with
    | ret v => exact .ret p
    | brk => exact .brk p
    | next => exact .next (fin p)
    | cont => exact .cont (fin p)
  · rintro h' tk m' news' F' N' _ ⟨rfl, hm, hJ⟩
    rw [em hm] at F'
    exact done m' h' tk hJ F' N'
end
/-- the bases that a literal may have, in their order -/
def BS : List Int := [10, 2, 3, 4, 5, 6, 7, 8, 9, 11, 12, 13, 14, 15, 16]
theorem BS_range : ∀ b ∈ BS, 2 ≤ b ∧ b ≤ 16 := by decide
-- a while by what holds of its letters, a measure, and what holds at its ends
def MwEnd {σ : Type} (h₀ : Heap) (L : Addr) (s : Shared) (news : List (Addr × Obj)) (ps : σ → List (Str × Value)) (stored : List Str) (m₀ : Str → Option Value) (G : σ → Prop) (s₂ : Shared) : Prop :=
  ∃ (c' : σ) (h' : Heap) (tk : Nat) (m' : Str → Option Value) (news' : List (Addr × Obj)), s₂ = { s with heap := h', toks := tk } ∧ Fr h₀ L h' m' ∧ News h₀ L h' news' ∧ (∀ p ∈ news, p ∈ news') ∧ (∀ p ∈ ps c', m' p.1 = some p.2) ∧ (∀ z, (∀ p ∈ ps c', z ≠ p.1) → stored.contains z = false → m' z = m₀ z) ∧ G c'
def MwPost {σ : Type} (h₀ : Heap) (L : Addr) (s : Shared) (news : List (Addr × Obj)) (ps : σ → List (Str × Value)) (stored : List Str) (m₀ : Str → Option Value) (P : σ → Prop) (μ : σ → Nat) (Ex : σ → Prop) (Q : Flow → Shared → Prop) (c : σ) (f : Flow) (s₂ : Shared) : Prop :=
  match f with
  | .ret v => Q (.ret v) s₂
  | .brk => MwEnd h₀ L s news ps stored m₀ Ex s₂
  | _ => MwEnd h₀ L s news ps stored m₀ (fun c' => P c' ∧ μ c' < μ c) s₂
theorem MwEnd.intro {σ : Type} {h₀ : Heap} {L : Addr} {s : Shared} {news : List (Addr × Obj)} {ps : σ → List (Str × Value)} {stored : List Str} {m₀ m' : Str → Option Value} {G : σ → Prop} {h' : Heap} {tk : Nat} {news' : List (Addr × Obj)} (c' : σ)
    (F : Fr h₀ L h' m') (N : News h₀ L h' news') (hn : ∀ p ∈ news, p ∈ news') (hk : ∀ p ∈ ps c', m' p.1 = some p.2) (hr : ∀ z, (∀ p ∈ ps c', z ≠ p.1) → stored.contains z = false → m' z = m₀ z) (hg : G c') :
    MwEnd h₀ L s news ps stored m₀ G { s with heap := h', toks := tk } := ⟨c', h', tk, m', news', rfl, F, N, hn, hk, hr, hg⟩
section
variable {prog : Program} {w : World} {A : Around} {E : Value → Shared → Prop} {Q : Flow → Shared → Prop} {s : Shared} {env : Env} {h₀ : Heap} {L : Addr}
theorem my_while {σ : Type} {test : PySem.Expr} {body : List Stmt} {pos : Pos} {m₀ : Str → Option Value} {news : List (Addr × Obj)} (ps : σ → List (Str × Value)) (stored : List Str) (P : σ → Prop) (μ : σ → Nat) (Ex : σ → Prop) (c₀ : σ)
    (F : Fr h₀ L s.heap m₀) (N : News h₀ L s.heap news) (hk : ∀ p ∈ ps c₀, m₀ p.1 = some p.2) (hp : P c₀)
    (turn : ∀ (c : σ) (u : Str → Option Value) h tk, P c → Fr h₀ L h (kstB (fun z => if stored.contains z then u z else m₀ z) (ps c)) → News h₀ L h news →
      wpAny (model prog w) A (isTrue test env (eval test env)) (fun b s₂ =>
        if b = true then wpAny (model prog w) A (execs body env) (MwPost h₀ L s news ps stored m₀ P μ Ex Q c) E s₂ else MwEnd h₀ L s news ps stored m₀ Ex s₂) E { s with heap := h, toks := tk })
    (exit : ∀ (c : σ) (u : Str → Option Value) h tk, Ex c → Fr h₀ L h (kstB (fun z => if stored.contains z then u z else m₀ z) (ps c)) → News h₀ L h news → Q .next { s with heap := h, toks := tk })
    (hE : PassesOwn (model prog w) A env E := by passes_own) :
    wpAny (model prog w) A (exec (.While test body [] pos) env) Q E s := by
  have ends : ∀ s₂, MwEnd h₀ L s news ps stored m₀ Ex s₂ → Q .next s₂ := by
    rintro s₂ ⟨c', h', tk, m', news', rfl, F', N', hn, hk', hr', hg⟩
    exact exit c' m' h' tk hg (ksw_fr hk' hr' F') fun p hp => N' p (hn p hp)
  refine While_inv2 (fun n m nx => ∃ c : σ, nx = news ∧ μ c = n ∧ (∀ p ∈ ps c, m p.1 = some p.2) ∧ (∀ z, (∀ p ∈ ps c, z ≠ p.1) → stored.contains z = false → m z = m₀ z) ∧ P c) F N ⟨c₀, rfl, rfl, hk, fun _ _ _ => rfl, hp⟩ ?_ hE
  rintro n m₁ nx h tk F₁ N₁ ⟨c, hnx, hsz, h1, h2, hp'⟩
  rw [hnx] at N₁
  rw [← hsz]
  refine wpAny_mono (turn c m₁ h tk hp' (ksw_fr h1 h2 F₁) N₁) (fun b s₂ p => ?_) fun _ _ x => x
  cases b with
  | false => simp only [Bool.false_eq_true, if_false] at p ⊢; exact ends s₂ p
  | true =>
    simp only [if_true] at p ⊢
    refine wpAny_mono p (fun f s₃ q => ?_) fun _ _ x => x
    cases f with
    | ret v => exact q
    | brk => exact ends s₃ q
    | next =>
      obtain ⟨c', h', tk', m', news', rfl, F', N', hn, hk9, hr9, hp9, hm9⟩ := q
      exact ⟨h', tk', m', news, μ c', rfl, F', fun p hp => N' p (hn p hp), hm9, c', rfl, rfl, hk9, hr9, hp9⟩
    | cont =>
      obtain ⟨c', h', tk', m', news', rfl, F', N', hn, hk9, hr9, hp9, hm9⟩ := q
      exact ⟨h', tk', m', news, μ c', rfl, F', fun p hp => N' p (hn p hp), hm9, c', rfl, rfl, hk9, hr9, hp9⟩
end
def maxI (a b : Int) : Int := if b > a then b else a
def minI (a b : Int) : Int := if b < a then b else a
theorem maxI_spec (a b : Int) : a ≤ maxI a b ∧ b ≤ maxI a b ∧ (maxI a b = a ∨ maxI a b = b) := by unfold maxI; split <;> omega
theorem minI_spec (a b : Int) : minI a b ≤ a ∧ minI a b ≤ b ∧ (minI a b = a ∨ minI a b = b) := by unfold minI; split <;> omega
section
variable {prog : Program} {w : World} {A : Around} {E : Value → Shared → Prop} {s : Shared} {h₀ : Heap} {L : Addr} {m : Str → Option Value} {news : List (Addr × Obj)} {Q : Value → Shared → Prop}
theorem max_I {a b : Int} {t u : Tok} (hh : A.handled = none) (F : Fr h₀ L s.heap m) (N : News h₀ L s.heap news)
    (h : ∀ t' h' tk, Fr h₀ L h' m → News h₀ L h' news → Q (.int (maxI a b) t') { s with heap := h', toks := tk }) :
    wpAny (model prog w) A (call (.builtin "max") [.int a t, .int b u]) Q E s := max_two_N hh F N fun h' tk F' N' => h _ h' tk F' N'
theorem min_I {a b : Int} {t u : Tok} (hh : A.handled = none) (F : Fr h₀ L s.heap m) (N : News h₀ L s.heap news)
    (h : ∀ t' h' tk, Fr h₀ L h' m → News h₀ L h' news → Q (.int (minI a b) t') { s with heap := h', toks := tk }) :
    wpAny (model prog w) A (call (.builtin "min") [.int a t, .int b u]) Q E s := min_two_N hh F N fun h' tk F' N' => h _ h' tk F' N'
end

end Mine

-- part cut
namespace Mine
-- a cut: the first statements of a block by what they leave, then the rest once
def Pre (M : Model) (A : Around) (env : Env) (E : Value → Shared → Prop) (Q : Flow → Shared → Prop) (R : Shared → Prop) : List Stmt → Shared → Prop
  | [], s => R s
  | st :: rest, s => wpAny M A (exec st env) (fun f s' => match f with | .next => Pre M A env E Q R rest s' | f => Q f s') E s
theorem pre_run {M : Model} {A : Around} {env : Env} {E : Value → Shared → Prop} {Q : Flow → Shared → Prop} {R : Shared → Prop} {b : List Stmt} (hR : ∀ s', R s' → wpAny M A (execs b env) Q E s') :
    ∀ {a : List Stmt} {s : Shared}, Pre M A env E Q R a s → wpAny M A (execs (a ++ b) env) Q E s
  | [], s, h => hR s h
  | st :: rest, s, h => by
    refine wpAny_execs_cons (wpAny_mono h (fun f s' x => ?_) fun _ _ x => x)
    cases f with
    | next => exact pre_run hR x
    | _ => exact x
section
variable {prog : Program} {w : World} {A : Around} {E : Value → Shared → Prop} {Q : Flow → Shared → Prop} {s : Shared} {env : Env} {h₀ : Heap} {L : Addr}
theorem my_cut {σ : Type} {m₀ : Str → Option Value} {news : List (Addr × Obj)} (a : List Stmt) {b : List Stmt} (ps : σ → List (Str × Value)) (stored : List Str) (Ex : σ → Prop) (_F : Fr h₀ L s.heap m₀) (N : News h₀ L s.heap news)
    (h1 : Pre (model prog w) A env E Q (MwEnd h₀ L s news ps stored m₀ Ex) a s)
    (exit : ∀ (c : σ) (u : Str → Option Value) h tk, Ex c → Fr h₀ L h (kstB (fun z => if stored.contains z then u z else m₀ z) (ps c)) → News h₀ L h news → wpAny (model prog w) A (execs b env) Q E { s with heap := h, toks := tk }) :
    wpAny (model prog w) A (execs (a ++ b) env) Q E s := by
  refine pre_run (fun s₂ q => ?_) h1
  obtain ⟨c', h', tk, m', news', rfl, F', N', hn, hk', hr', hg⟩ := q
  exact exit c' m' h' tk hg (ksw_fr hk' hr' F') fun p hp => N' p (hn p hp)
end
end Mine
-- lines for the walk
local macro_rules | `(tactic| walk_at $s:str) => `(tactic| k_extra $s)
namespace Mine
theorem linescut_1 : True := by
  k_with "mine same" =>
    (intro z h2 h3; (simp only [List.forall_mem_cons, List.not_mem_nil, false_implies, implies_true, and_true, ne_eq] at h2); (simp only [List.contains_cons, List.contains_nil, Bool.or_false, Bool.or_eq_false_iff, beq_eq_false_iff_ne, ne_eq] at h3); (simp [kstB, h2, h3]))
  k_with "call builtin:len" =>
    ((with_reducible show wpAny _ _ (call (Value.builtin "len") [Value.str (S _) _]) _ _ _); (refine len_S (by first | omega | (simp; omega)) ?_); intro _ _)
  k_with "subscriptTail" =>
    ((with_reducible show wpAny _ _ (subscriptTail _ _ (Value.str (Str.ofString "0123456789abcdef") _) (Value.int _ _)) _ _ _); (refine fig_item (by omega) (by omega) ?_))
  k_with "binaryOp Add str str" =>
    ((with_reducible show wpAny _ _ (binaryOp Operator.Add (Value.str _ _) (Value.str _ _)) _ _ _); (refine' add_S ?q9hx ?q9hy ?q9hz ?_); (case q9hx => walk_at "mine lit"); (case q9hy => walk_at "mine lit"); (case q9hz => walk_at "mine size"); intro _ _; (try simp only [List.cons_append, List.nil_append]))
  k_with "mine con" =>
    (
      (case k1 => k_asm); (case k2 => k_asm); (case k3 => k_asm); (case k4 => k_asm); (case k5 => k_asm); (case kK => first | exact rfl | assumption); (case kd => ktr_room); (case ku => ktr_units))
  k_with "mine size" =>
    first | with_reducible assumption | omega | (simp only [List.length_append, List.length_cons, List.length_nil, List.length_take, List.length_drop, List.length_replicate, List.length_map]; omega)
  k_with "subscriptTail" =>
    ((with_reducible show wpAny _ _ (subscriptTail _ _ (Value.str (S _) _) (Value.int _ _)) _ _ _); (refine' item_S ?q9a ?q9b ?q9c ?_); (case q9a => omega); (case q9b => walk_at "mine at"); (case q9c => walk_at "mine size"); intro _ _)
  k_with "subscriptTail" =>
    ((with_reducible show wpAny _ _ (subscriptTail _ (Expr.Slice _ _ none _) (Value.str (S _) _) (Value.ref _)) _ _ _); (with_reducible rename Fr _ _ _ _ => F'); (with_reducible rename News _ _ _ _ => N'); first
      | ((with_reducible show wpAny _ _ (subscriptTail _ (Expr.Slice none (some _) none _) _ _) _ _ _); (refine' slice_S_ns (s := ⟨_, _, _, _, _⟩) F' N' ?q9a ?q9c ?_); (case q9a => omega); (case q9c => walk_at "mine size"))
      | ((with_reducible show wpAny _ _ (subscriptTail _ (Expr.Slice (some _) none none _) _ _) _ _ _); (refine' slice_S_sn (s := ⟨_, _, _, _, _⟩) F' N' ?q9a ?q9c ?_); (case q9a => omega); (case q9c => walk_at "mine size"))
      | ((with_reducible show wpAny _ _ (subscriptTail _ (Expr.Slice (some _) (some _) none _) _ _) _ _ _); (refine' slice_S_ss (s := ⟨_, _, _, _, _⟩) F' N' ?q9a ?q9b ?q9c ?_); (case q9a => omega); (case q9b => omega); (case q9c => walk_at "mine size"))
      ; intro _ _ _ _ _; (try k_sweep))
  k_with "binaryOp Mult str int" =>
    ((with_reducible show wpAny _ _ (binaryOp Operator.Mult (Value.str _ _) (Value.int _ _)) _ _ _); (refine' mul_S ?q9hx ?q9a ?q9b ?_); (case q9hx => walk_at "mine lit"); (case q9a => omega); (case q9b => omega); intro _ _)
  k_with "compareOp Eq str str" =>
    ((with_reducible show wpAny _ _ (compareOp CmpOp.Eq (Value.str _ _) (Value.str _ _)) _ _ _); (refine' eq_S ?q9hx ?q9hy ?_); (case q9hx => walk_at "mine lit"); (case q9hy => walk_at "mine lit"))
  k_with "compareOp NotEq str str" =>
    ((with_reducible show wpAny _ _ (compareOp CmpOp.NotEq (Value.str _ _) (Value.str _ _)) _ _ _); (refine' ne_S ?q9hx ?q9hy ?_); (case q9hx => walk_at "mine lit"); (case q9hy => walk_at "mine lit"))
  k_with "TupPost" =>
    (dsimp only [TupPost])
  k_with "mine same2" =>
    (intro z h3; (simp only [List.contains_cons, List.contains_nil, Bool.or_false, Bool.or_eq_false_iff, beq_eq_false_iff_ne, ne_eq] at h3); (simp [h3]))
  k_with "mine sub" =>
    first | exact fun p hp => hp | exact fun p hp => List.mem_append_right _ hp | exact fun p hp => List.mem_cons_of_mem _ hp | (intro p hp; simp [hp])
  k_with "MwPost" =>
    (dsimp only [MwPost])
  k_with "mine mw" =>
    ((case F => assumption); (case kk => kst_all); (case N => assumption); (case led => walk_at "mine sub"); (case rr => walk_at "mine same"))
  k_with "mine mul" =>
    first | with_reducible assumption | mul_fits
  k_with "binaryOp Mult" =>
    ((try dsimp only); (with_reducible show wpAny _ _ (binaryOp Operator.Mult (Value.int _ _) (Value.int _ _)) _ _ _); (refine' mul_int ?_ ?q9hm); (case q9hm => walk_at "mine mul"))
  k_with "call builtin:max" =>
    ((with_reducible show wpAny _ _ (call (Value.builtin "max") [Value.int _ _, Value.int _ _]) _ _ _); (refine' max_I ?q9hh ?F ?N ?_); (case q9hh => k_dflt (exact rfl)); (case F => k_asm); (case N => k_asm); intro _ _ _ F' N'; (try k_sweep))
  k_with "call builtin:min" =>
    ((with_reducible show wpAny _ _ (call (Value.builtin "min") [Value.int _ _, Value.int _ _]) _ _ _); (refine' min_I ?q9hh ?F ?N ?_); (case q9hh => k_dflt (exact rfl)); (case F => k_asm); (case N => k_asm); intro _ _ _ F' N'; (try k_sweep))
  k_with "exec While Compare cons nil" =>
    k_extra "mine while"
  k_with "exec While BoolOp cons nil" =>
    k_extra "mine while"
  k_with "binaryOp FloorDiv" =>
    ((try dsimp only); (with_reducible show wpAny _ _ (binaryOp Operator.FloorDiv (Value.int _ _) (Value.int _ _)) _ _ _); (refine' floordiv_int ?q9hb ?_ (Or.inl (PyProof.noPylong_of_log2 ?q9hl))); (case q9hl => with_reducible assumption); (case q9hb => first | with_reducible assumption | omega))
  k_with "inplaceOp FloorDiv" =>
    ((try dsimp only); (with_reducible show wpAny _ _ (inplaceOp Operator.FloorDiv (Value.int _ _) (Value.int _ _)) _ _ _); (refine' ifloordiv_int ?q9hb ?_ (Or.inl (PyProof.noPylong_of_log2 ?q9hl))); (case q9hl => with_reducible assumption); (case q9hb => first | with_reducible assumption | omega))
  k_with "mine same3" =>
    (intro z h3; (simp only [List.contains_cons, List.contains_nil, Bool.or_false, Bool.or_eq_false_iff, beq_eq_false_iff_ne, ne_eq] at h3); (simp [kstB, h3]))
  k_with "mine lit" =>
    with_reducible first | exact lit_nil | exact lit_hash | exact lit_E | exact lit_minus | exact lit_dot | exact lit_0 | exact lit_A | exact lit_Z | exact lit_e | exact lit_low | exact lit_plus | exact lit_quote | exact lit_tick | exact lit_nl | exact lit_dd | exact lit_int | exact lit_real | exact rfl
  k_with "compareOp LtE str str" =>
    ((with_reducible show wpAny _ _ (compareOp CmpOp.LtE (Value.str _ _) (Value.str _ _)) _ _ _); first
      | ((refine' le_S ?q9hx ?q9hy ?_); (case q9hx => walk_at "mine lit"); (case q9hy => walk_at "mine lit"))
      | ((refine' le_S0 ?q9hx ?q9hy ?_); (case q9hx => walk_at "mine lit"); (case q9hy => walk_at "mine lit")))
  k_with "compareOp In str str" =>
    ((with_reducible show wpAny _ _ (compareOp CmpOp.In (Value.str _ _) (Value.str _ _)) _ _ _); (refine' in_S ?q9hy ?_); (case q9hy => walk_at "mine lit"))
  k_with "call builtin:ord" =>
    ((with_reducible show wpAny _ _ (call (Value.builtin "ord") [Value.str (S _) _]) _ _ _); (refine ord_S ?_); intro _ _)
  k_with "call builtin:chr" =>
    ((with_reducible show wpAny _ _ (call (Value.builtin "chr") [Value.int _ _]) _ _ _); (refine' chr_S ?q9a ?q9b ?_); (case q9a => omega); (case q9b => omega); intro _ _)
  k_with "mine to while" =>
    (repeat ((fail_if_success (with_reducible show wpAny _ _ (exec (Stmt.While _ _ _ _) _) _ _ _)); walk1))
  k_with "subscriptTail Name Name str int" =>
    ((with_reducible show wpAny _ _ (subscriptTail _ _ (Value.str (S _) _) (Value.int _ _)) _ _ _); (refine' item_S ?q9a ?q9b ?q9c ?_); (case q9a => omega); (case q9b => walk_at "mine at"); (case q9c => walk_at "mine size"); intro _ _)
  k_with "mine enter" =>
    (refine' code_def ?k1 ?k2 ?k3 ?k4 ?k5 ?kA ?kF ?kK ?k6 ?k7 ?k8 ?k9 ?kB ?_ ?q9c2 ?q9c3 ?q9c4 ?q9c5; (case kA => exact rfl); (case kF => exact rfl); (case kK => first | exact rfl | assumption); (case k1 => k_asm); (case k2 => k_asm); (case k3 => k_asm); (case k4 => k_asm); (case k5 => k_asm); (case k6 => k_is); (case k7 => k_is); (case k8 => ktr_room); (case k9 => exact BindsTo.of_eq rfl); (case q9c5 => decide); (case kB => exact locs rfl); (case q9c2 => exact rfl); (case q9c3 => exact rfl); (case q9c4 => exact rfl); k_whole; intro g' L' h' FG' F' N' B' X' T'; (try dsimp only); (try k_lift B'); (try k_fold))
  k_with "Pre" =>
    (dsimp only [Pre])
  k_with "mine cut" =>
    ((case F => assumption); (case N => assumption))
  trivial

end Mine

-- part head
namespace Mine
theorem asW_eq : ∀ P, asW = (KW P).map (·.1) := fun _ => by kernel_rfl
noncomputable def XtW (s : Shared) : Bool := xlAt VW [] s && recOk [] s
noncomputable abbrev HK : Hook := kHook KW asW asW_eq
theorem left_of {p q : Program} {loose : List Str} {Xt : Shared → Bool} {α : Type} {Yf : Shared → α} {Ya : World → α} {N : Nat} (e : opening p = plainProg p.main.scope.names) (hN : Nat.ble 600 N = true) (f : ∀ s, fenceModules? p s = some s)
    (h : ∀ (w : World) (os : OsState), (topFrom treeTable p w N ⟨boot_heap w.params, Array.mk [], boot_drawn, boot_toks, os⟩).map (fun s => (openSeen q loose (importedModules p.main.body) Xt true s, Yf s)) = some (openGood q loose, Ya w)) : LeftO p q loose Xt Yf Ya N := fun w => by
  obtain ⟨⟨hh, gs, d, k, os⟩, e1, e2⟩ := Option.map_eq_some_iff.mp (boot_open e hN f w)
  obtain ⟨rfl, rfl, rfl, rfl⟩ : hh = boot_heap w.params ∧ gs = Array.mk [] ∧ d = boot_drawn ∧ k = boot_toks := by simpa using e2
  unfold openEnds
  rw [e1]
  show (topFrom treeTable p w N _).map _ = _
  obtain ⟨s, h1, h2⟩ := Option.map_eq_some_iff.mp (h w os)
  rw [h1]
  exact congrArg some h2
theorem law_said : PySem.Challenge.rw_pp0009_01.wellSaid = true := by
  unfold OpenLaw.wellSaid
  repeat (first | (refine look_both ?_ ?_))
  all_goals decide +kernel
theorem law_open : opening PW = plainProg PW.main.scope.names := by kernel_rfl
theorem law_fence (s : Shared) : fenceModules? PW s = some s := by kernel_rfl
theorem run_ab (w : World) (os : OsState) : (topFrom treeTable PW w 3968 ⟨boot_heap w.params, Array.mk [], boot_drawn, boot_toks, os⟩).map (fun s => (openSeen VW restN (importedModules PW.main.body) XtW true s, HK.obs s)) = some (openGood VW restN, HK.val w) := by kernel_rfl
theorem law_ok : LeftO PW VW restN XtW HK.obs HK.val 3968 := left_of law_open (by rfl) law_fence run_ab

end Mine

-- part fig
namespace Mine
theorem S_nil : Str.ofString "" = S [] := by decide
def figT (n b l : Int) : List Nat := (digs b.toNat n.toNat l.toNat).map sgn
theorem fdiv_le {k b : Int} (hk : 0 ≤ k) (hb : 2 ≤ b) : 0 ≤ k.fdiv b ∧ 2 * k.fdiv b ≤ k := by
  rw [Int.fdiv_eq_ediv_of_nonneg _ (by omega)]
  have h0 := Int.ediv_nonneg hk (by omega : 0 ≤ b)
  refine ⟨h0, ?_⟩
  have h1 := Int.ediv_mul_le k (by omega : b ≠ 0)
  have h2 : k / b * 2 ≤ k / b * b := Int.mul_le_mul_of_nonneg_left hb h0
  omega
def FInv (n b l k : Int) (t : List Nat) : Prop := 0 ≤ k ∧ t.length ≤ 10000 ∧ figT n b l = figT k b (l - t.length) ++ t
theorem FInv.start {n b l : Int} (hn : 0 ≤ n) : FInv n b l n [] := ⟨hn, by simp, by simp⟩
theorem fdiv_toNat {k b : Int} (hk : 0 ≤ k) (hb : 0 ≤ b) : (k.fdiv b).toNat = k.toNat / b.toNat := by
  rw [Int.fdiv_eq_ediv_of_nonneg _ hb]
  obtain ⟨a, rfl⟩ := Int.eq_ofNat_of_zero_le hk
  obtain ⟨c, rfl⟩ := Int.eq_ofNat_of_zero_le hb
  rfl
theorem fmod_toNat {k b : Int} (hk : 0 ≤ k) (hb : 0 ≤ b) : (k.fmod b).toNat = k.toNat % b.toNat := by
  rw [Int.fmod_eq_emod_of_nonneg _ hb]
  obtain ⟨a, rfl⟩ := Int.eq_ofNat_of_zero_le hk
  obtain ⟨c, rfl⟩ := Int.eq_ofNat_of_zero_le hb
  rfl
theorem FInv.step {n b l k : Int} {t : List Nat} (hf : (figT n b l).length ≤ 10000) (hb : 2 ≤ b) (h : FInv n b l k t) (hg : 0 < k ∨ (t.length : Int) < l) : FInv n b l (k.fdiv b) (sgn (k.fmod b).toNat :: t) := by
  obtain ⟨h0, h1, h2⟩ := h
  have e : figT k b (l - t.length) = figT (k.fdiv b) b (l - (sgn (k.fmod b).toNat :: t).length) ++ [sgn (k.fmod b).toNat] := by
    unfold figT
    rw [digs_step (by omega) (by omega), List.map_append, fdiv_toNat h0 (by omega), fmod_toNat h0 (by omega)]
    have : (l - (t.length : Int)).toNat - 1 = (l - ((sgn (k.toNat % b.toNat) :: t).length : Int)).toNat := by simp only [List.length_cons]; omega
    rw [this]; rfl
  refine ⟨Int.fdiv_nonneg h0 (by omega), ?_, by rw [h2, e]; simp⟩
  rw [h2, e] at hf
  simp only [List.length_append, List.length_cons, List.length_nil] at hf ⊢
  omega
theorem FInv.done {n b l k : Int} {t : List Nat} (h : FInv n b l k t) (h1 : ¬ 0 < k) (h2 : ¬ (t.length : Int) < l) : t = figT n b l := by
  obtain ⟨h0, _, h3⟩ := h
  have : figT k b (l - t.length) = [] := by
    unfold figT
    rw [show k.toNat = 0 by omega, show (l - (t.length : Int)).toNat = 0 by omega, digs_nil]; rfl
  rw [h3, this]; rfl
set_option maxHeartbeats 8000000 in
theorem figures_con {w : World} {mean : ExcName → Option Value} {mg mb : Str → Option Value} (n b l : Int) (tn tb tl : Tok)
    (hn : 0 ≤ n) (hb : 2 ≤ b) (hb' : b ≤ 16) (hl : 0 ≤ l) (hfit : (figT n b l).length ≤ 10000) :
    Con w mean mg mb 208 1 [.int n tn, .int b tb, .int l tl] (fun v ex => ex = [] ∧ ∃ t, v = .str (S (figT n b l)) t) := by
  unfold Con
  k_fill
  intro dp un gd cn cs a ccd cl outer A₀ base h₀ L m news s Q E B F X N T hk hdp hun hret
  refine wpAny_call ?_
  k_dflt cell_enter
  iterate 6 walk1
  (rename Fr _ _ _ _ => lF'); (rename News _ _ _ _ => lN')
  rw [S_nil] at lF'
  (with_unfolding_all refine' ksw_while (σ := Int × List Nat × Tok × Tok) (fun _ => news) (fun c => [(Str.ofString "number", .int c.1 c.2.2.1), (Str.ofString "text", .str (S c.2.1) c.2.2.2)]) (fun _ => True) [] (fun c => FInv n b l c.1 c.2.1) (fun c => c.1.toNat + (l - c.2.1.length).toNat) (n, [], tn, _) lF' lN' trivial ?kk ?kp ?kt)
  case kk => kst_all
  case kp => exact FInv.start hn
  clear lF' lN'
  rintro ⟨k, tx, t1, t2⟩ u h9 tk9 - hI F1 N1
  dsimp only at hI F1 N1 ⊢
  have hI1 := hI.1
  have hI2 := hI.2.1
  have hm0 := Int.fmod_nonneg_of_pos k (by omega : 0 < b)
  have hm1 := Int.fmod_lt_of_pos k (by omega : 0 < b)
  k_with "state" => exact FInv.step hfit hb hI (by omega)
  k_with "measure" => simp only [List.length_cons]; have := fdiv_le hI1 hb; omega
  k_steps
  rotate_right
  · refine ret0 hret ⟨rfl, t2, ?_⟩ (by assumption) (by assumption) (fun p hp => hp); rw [hI.done (by omega) (by omega)]
  all_goals (
    (rename News _ _ _ _ => nE')
    (refine' ksw_end ((k.fdiv b, sgn (k.fmod b).toNat :: tx, _, _) : Int × List Nat × Tok × Tok) ?f nE' ?led trivial ?kk ?rr ?pp ?mm)
    (case f => assumption)
    (case kk => kst_all)
    (case led => exact fun p hp => hp)
    (case rr => walk_at "mine same")
    (case pp => exact FInv.step hfit hb hI (by omega))
    (case mm => (try simp only [List.length_cons]); have := fdiv_le hI1 hb; omega))
theorem figT_small {n : Int} (h0 : 0 ≤ n) (h : n < 1000000) : (figT n 10 1).length ≤ 6 := by
  unfold figT
  rw [List.length_map]
  exact digs_len_le (by decide) _ _ 6 (by show n.toNat < 10 ^ 6; omega) (by decide)
theorem linesfig_1 : True := by
  k_with "call ref" =>
    (
      (with_reducible show wpAny _ _ (call (Value.ref 208) _) _ _ _)
      k_dflt (refine' Con.use (figures_con _ _ _ _ _ _ ?q9c1 ?q9c2 ?q9c3 ?q9c4 ?q9c5) ?k1 ?k2 ?k3 ?k4 ?k5 ?kK ?kd ?ku ?_)
      (case q9c1 => first | with_reducible assumption | omega | (split <;> omega)); (case q9c2 => first | with_reducible assumption | omega); (case q9c3 => first | with_reducible assumption | omega); (case q9c4 => first | with_reducible assumption | omega)
      (case q9c5 => assumption)
      walk_at "mine con"
      intro v9 ex9 h9 tk9 P9 lt9 F9 N9
      obtain ⟨hex9, t9, hv9⟩ := P9
      subst hex9 hv9
      (try simp only [List.nil_append] at N9)
      clear lt9
      (try k_sweep))
  trivial
end Mine

-- part showb
namespace Mine
def decT (n : Int) : List Nat := figT n 10 1
def showB (base : Int) (tx : List Nat) (power : Int) : List Nat :=
  (if base = 10 then tx else decT base ++ ([35] ++ (tx ++ [35]))) ++ (if power = 0 then [] else [69] ++ ((if power < 0 then [45] else []) ++ decT (if power < 0 then -power else power)))
set_option maxHeartbeats 8000000 in
theorem showb_con {w : World} {mean : ExcName → Option Value} {mg mb : Str → Option Value} (b power : Int) (tx : List Nat) (tb tt tp : Tok)
    (hb : 2 ≤ b) (hb' : b ≤ 16) (hl : tx.length ≤ 20000) (hp : -10000 ≤ power) (hp' : power ≤ 10000) :
    Con w mean mg mb 215 2 [.int b tb, .str (S tx) tt, .int power tp] (fun v ex => ex = [] ∧ ∃ t, v = .str (S (showB b tx power)) t) := by
  unfold Con
  k_fill
  intro dp un gd cn cs a ccd cl outer A₀ base h₀ L m news s Q E B F X N T hk hdp hun hret
  have f1 : (figT b 10 1).length ≤ 10000 := Nat.le_trans (figT_small (by omega) (by omega)) (by decide)
  have f2 : (figT (if power < 0 then -power else power) 10 1).length ≤ 10000 := by
    split <;> exact Nat.le_trans (figT_small (by omega) (by omega)) (by decide)
  have f1' : (figT b 10 1).length ≤ 6 := figT_small (by omega) (by omega)
  refine wpAny_call ?_
  k_dflt cell_enter
  k_steps
  all_goals (refine' ret0 hret (And.intro rfl (Exists.intro _ (strEq ?e))) ?F ?N ?led; (case F => assumption); (case N => assumption); (case led => exact fun p hp => hp); (case e => clear f1 f2 f1'; unfold showB decT; simp [*]))
theorem linesshowb_1 : True := by
  k_with "call ref" =>
    (
      (with_reducible show wpAny _ _ (call (Value.ref 215) _) _ _ _)
      k_dflt (refine' Con.use (showb_con _ _ _ _ _ _ ?q9c1 ?q9c2 ?q9c3 ?q9c4 ?q9c5) ?k1 ?k2 ?k3 ?k4 ?k5 ?kK ?kd ?ku ?_)
      (case q9c1 => first | with_reducible assumption | omega); (case q9c2 => first | with_reducible assumption | omega); (case q9c3 => first | with_reducible assumption | omega | walk_at "mine size"); (case q9c4 => first | with_reducible assumption | omega); (case q9c5 => first | with_reducible assumption | omega)
      walk_at "mine con"
      intro v9 ex9 h9 tk9 P9 lt9 F9 N9
      obtain ⟨hex9, t9, hv9⟩ := P9
      subst hex9 hv9
      (try simp only [List.nil_append] at N9)
      clear lt9
      (try k_sweep))
  trivial
end Mine

-- part whole
namespace Mine
def accW (b n : Int) : Prop := (figT n b 1).length ≤ 480 ∧ (figT n b 1).drop 80 = List.replicate ((figT n b 1).length - 80) 48
def powW (b n : Int) : Int := maxI 0 (((figT n b 1).length : Int) - 80)
def WholeAt (n : Int) (i : Nat) (x : List Nat) : Prop := ∃ b, BS[i]? = some b ∧ accW b n ∧ x = showB b ((figT n b 1).take 80) (powW b n)
theorem pow_nat (b n : Int) : (powW b n).toNat = (figT n b 1).length - 80 := by unfold powW; have := maxI_spec 0 (((figT n b 1).length : Int) - 80); omega
theorem accW_of {b n : Int} (h1 : powW b n ≤ 400) (h2 : List.drop (Int.toNat 80) (figT n b 1) = List.replicate (Int.toNat (powW b n)) 48) : accW b n := by
  rw [pow_nat] at h2
  refine ⟨?_, h2⟩
  unfold powW at h1
  have := maxI_spec 0 (((figT n b 1).length : Int) - 80)
  omega
theorem accW_pow {b n : Int} (h : accW b n) : powW b n ≤ 400 ∧ 0 ≤ powW b n := by
  have := h.1
  unfold powW
  have := maxI_spec 0 (((figT n b 1).length : Int) - 80)
  omega
theorem accW_not1 {b n : Int} (h2 : ¬ List.drop (Int.toNat 80) (figT n b 1) = List.replicate (Int.toNat (powW b n)) 48) : ¬ accW b n := fun h => h2 (by rw [pow_nat]; exact h.2)
theorem accW_not2 {b n : Int} (h1 : ¬ powW b n ≤ 400) : ¬ accW b n := fun h => h1 (accW_pow h).1
theorem accW_next {n b : Int} {i : Nat} (hb : BS[i]? = some b) (hP : ∀ j < i, ∀ c, BS[j]? = some c → ¬ accW c n) (h : ¬ accW b n) : ∀ j < i + 1, ∀ c, BS[j]? = some c → ¬ accW c n := by
  intro j hj c hc
  by_cases e : j = i
  · subst e; rw [hb] at hc; cases hc; exact h
  · exact hP j (by omega) c hc
set_option maxHeartbeats 8000000 in
theorem bases_tup {w : World} {h : Heap} (X : (KW w.params).In h) : ∃ vs, IsTup h 201 vs.toArray ∧ IntsAre vs BS := by
  refine ⟨_, tupK X (n := 0) (l := [.int 10 561, .int 2 562, .int 3 563, .int 4 564, .int 5 565, .int 6 566, .int 7 567, .int 8 568, .int 9 569, .int 11 570, .int 12 571, .int 13 572, .int 14 573, .int 15 574, .int 16 575]) (dd := none) (sl := #[]) rfl, ?_⟩
  unfold BS
  repeat (first | exact .nil | refine .cons _ _ ?_)
set_option maxHeartbeats 8000000 in
theorem whole_con {w : World} {mean : ExcName → Option Value} {mg mb : Str → Option Value} (n : Int) (tn : Tok)
    (hn : 0 ≤ n) (hfit : ∀ b, 2 ≤ b → (figT n b 1).length ≤ 10000) (H : ∃ b ∈ BS, accW b n) :
    Con w mean mg mb 222 3 [.int n tn] (fun v ex => ex = [] ∧ ∃ i x t, v = .str (S x) t ∧ WholeAt n i x ∧ ∀ j < i, ∀ c, BS[j]? = some c → ¬ accW c n) := by
  unfold Con
  k_fill
  intro dp un gd cn cs a ccd cl outer A₀ base h₀ L m news s Q E B F X N T hk hdp hun hret
  refine wpAny_call ?_
  k_dflt cell_enter
  iterate 2 walk1
  (rename Fr _ _ _ _ => lF'); (rename News _ _ _ _ => lN')
  (with_unfolding_all refine' For_invVF lF' ?k1 ?k2 ?_)
  case k1 => exact rfl
  case k2 => exact rfl
  walk1
  rename (KW w.params).In _ => kX
  obtain ⟨vs, hvs, hvi⟩ := bases_tup kX
  refine' iter_tup [Str.ofString "base", Str.ofString "text", Str.ofString "power"] (fun i => ∀ j < i, ∀ c, BS[j]? = some c → ¬ accW c n) rfl rfl hvs hvi lF' lN' (by intro j hj; omega) ?turn ?done
  case done =>
    intro u h9 tk9 hP
    exfalso
    obtain ⟨b, hb, hacc⟩ := H
    obtain ⟨j, hj, hje⟩ := List.getElem_of_mem hb
    exact hP j hj b (by rw [List.getElem?_eq_getElem hj, hje]) hacc
  intro i b t u h9 tk9 own hb hP F1 N1
  clear lF' lN'
  dsimp only [envOf] at F1 N1
  have hb2 := BS_range b (List.mem_of_getElem? hb)
  have hf2 := hfit b hb2.1
  have hmx := maxI_spec 0 (((figT n b 1).length : Int) - 80)
  k_steps
  · refine' ret0 hret (And.intro rfl ⟨i, _, _, rfl, ⟨b, hb, accW_of (by assumption) (by assumption), rfl⟩, hP⟩) ?F ?N ?led
    case F => assumption
    case N => assumption
    case led => walk_at "mine sub"
  · refine' TupEnd.intro ?F ?N ?hn ?hm ?hp
    case F => assumption
    case N => assumption
    case hn => walk_at "mine sub"
    case hm => walk_at "mine same2"
    case hp => exact accW_next hb hP (accW_not1 (by assumption))
  · refine' TupEnd.intro ?F ?N ?hn ?hm ?hp
    case F => assumption
    case N => assumption
    case hn => walk_at "mine sub"
    case hm => walk_at "mine same2"
    case hp => exact accW_next hb hP (accW_not2 (by assumption))

end Mine

-- part scaled
namespace Mine
theorem figT_len_ge {b l : Int} (n : Int) (hb : 2 ≤ b) : l ≤ ((figT n b l).length : Int) := by
  have := digs_len_ge (b := b.toNat) (by omega) n.toNat l.toNat
  unfold figT
  rw [List.length_map]; omega
theorem figT_len_le {n b l : Int} {k : Nat} (hb : 2 ≤ b) (hn : n < 2 ^ k) (hl : l ≤ k) : (figT n b l).length ≤ k := by
  unfold figT
  rw [List.length_map]
  refine digs_len_le (by omega) _ _ k ?_ (by omega)
  have h1 : (2 : Nat) ^ k ≤ b.toNat ^ k := Nat.pow_le_pow_left (by omega) k
  have h2 : n.toNat < 2 ^ k := by
    have h3 : ((2 ^ k : Nat) : Int) = 2 ^ k := by simp
    have h4 : 0 < 2 ^ k := Nat.pow_pos (by decide)
    omega
  omega
/-- the ends of the loop that strips noughts -/
def Strip (b n p n' p' : Int) : Prop := 0 ≤ n' ∧ n = n' * b ^ (p - p').toNat ∧ p' ≤ p ∧ (0 < p → p' = p) ∧ (p ≤ 0 → 0 < n' → n'.fmod b ≠ 0)
def SInv (b n p n' p' : Int) : Prop := 0 ≤ n' ∧ n' ≤ n ∧ n = n' * b ^ (p - p').toNat ∧ p' ≤ p ∧ (0 < p → p' = p)
def behindI (size p : Int) : Int := minI 80 (maxI p (size - 80))
def scaledT (n p b : Int) : List Nat :=
  if ((figT n b 1).length : Int) - behindI (figT n b 1).length p > 80 ∨ behindI (figT n b 1).length p - p < -400 ∨ behindI (figT n b 1).length p - p > 400 then []
  else showB b ((figT (n * b ^ (maxI 0 (1 - behindI (figT n b 1).length p)).toNat) b (behindI (figT n b 1).length p + maxI 0 (1 - behindI (figT n b 1).length p) + 1)).take ((figT (n * b ^ (maxI 0 (1 - behindI (figT n b 1).length p)).toNat) b (behindI (figT n b 1).length p + maxI 0 (1 - behindI (figT n b 1).length p) + 1)).length - behindI (figT n b 1).length p - maxI 0 (1 - behindI (figT n b 1).length p)).toNat
    ++ [46] ++ (figT (n * b ^ (maxI 0 (1 - behindI (figT n b 1).length p)).toNat) b (behindI (figT n b 1).length p + maxI 0 (1 - behindI (figT n b 1).length p) + 1)).drop ((figT (n * b ^ (maxI 0 (1 - behindI (figT n b 1).length p)).toNat) b (behindI (figT n b 1).length p + maxI 0 (1 - behindI (figT n b 1).length p) + 1)).length - behindI (figT n b 1).length p - maxI 0 (1 - behindI (figT n b 1).length p)).toNat) (behindI (figT n b 1).length p - p)
theorem SInv.start {b n p : Int} (hn : 0 ≤ n) : SInv b n p n p := ⟨hn, Int.le_refl _, by simp, Int.le_refl _, fun _ => rfl⟩
theorem SInv.step {b n p n' p' : Int} (hb : 2 ≤ b) (h : SInv b n p n' p') (h1 : p' ≤ 0) (h2 : n'.fmod b = 0) : SInv b n p (n'.fdiv b) (p' - 1) := by
  obtain ⟨h0, hle, he, hp, hq⟩ := h
  have hd := fdiv_le h0 hb
  refine ⟨hd.1, by omega, ?_, by omega, fun h => absurd (hq h) (by omega)⟩
  have e1 : n' = n'.fdiv b * b := by
    have := Int.fdiv_mul_add_fmod n' b
    rw [h2, Int.add_zero] at this
    exact this.symm
  have e2 : (p - (p' - 1)).toNat = (p - p').toNat + 1 := by omega
  rw [e2, Int.pow_succ, Int.mul_comm (b ^ _) b, ← Int.mul_assoc, ← e1]
  exact he
theorem SInv.done {b n p n' p' : Int} (h : SInv b n p n' p') (hs : p' ≤ 0 → 0 < n' → n'.fmod b ≠ 0) : Strip b n p n' p' :=
  ⟨h.1, h.2.2.1, h.2.2.2.1, h.2.2.2.2, fun h0 => hs (Int.le_trans h.2.2.2.1 h0)⟩
theorem bits_lt {a : Int} {k : Nat} (h0 : 0 ≤ a) (h : a < 2 ^ k) : Builtin.Int.intBits a ≤ k := by
  have h3 : ((2 ^ k : Nat) : Int) = 2 ^ k := by simp
  have h4 : a.natAbs < 2 ^ k := by omega
  unfold Builtin.Int.intBits
  split
  · exact Nat.zero_le _
  · rename_i hne
    have hne' : a.natAbs ≠ 0 := by simpa using hne
    have := (Nat.log2_lt hne').mpr h4
    omega
theorem pow_le_two {b : Int} {e k : Nat} (hb : 2 ≤ b) (hb' : b ≤ 16) (he : e ≤ k) : 0 ≤ b ^ e ∧ b ^ e < 2 ^ (4 * k + 1) := by
  obtain ⟨c, rfl⟩ := Int.eq_ofNat_of_zero_le (by omega : 0 ≤ b)
  have h1 : c ^ e ≤ 16 ^ k := Nat.le_trans (Nat.pow_le_pow_left (by omega) e) (Nat.pow_le_pow_right (by decide) he)
  have h2 : (16 : Nat) ^ k = 2 ^ (4 * k) := by rw [Nat.pow_mul]
  have h3 : (2 : Nat) ^ (4 * k) < 2 ^ (4 * k + 1) := Nat.pow_lt_pow_right (by decide) (by omega)
  have h4 : c ^ e < 2 ^ (4 * k + 1) := by omega
  refine ⟨?_, ?_⟩
  · have : (0 : Int) ≤ ((c ^ e : Nat) : Int) := Int.natCast_nonneg _
    simpa using this
  · have : ((c ^ e : Nat) : Int) < ((2 ^ (4 * k + 1) : Nat) : Int) := by exact_mod_cast h4
    simpa using this
theorem mul_lt_two {a c : Int} {j k : Nat} (h0 : 0 ≤ a) (h1 : a < 2 ^ j) (h2 : 0 ≤ c) (h3 : c < 2 ^ k) : 0 ≤ a * c ∧ a * c < 2 ^ (j + k) := by
  refine ⟨Int.mul_nonneg h0 h2, ?_⟩
  rw [Int.pow_add]
  have hj : (0 : Int) < 2 ^ j := by omega
  by_cases hc : c = 0
  · subst hc; rw [Int.mul_zero]; exact Int.mul_pos hj (by omega)
  · exact Int.lt_of_lt_of_le (Int.mul_lt_mul_of_pos_right h1 (by omega)) (Int.mul_le_mul_of_nonneg_left (Int.le_of_lt h3) (Int.le_of_lt hj))
set_option maxHeartbeats 8000000 in
theorem scaled_con {w : World} {mean : ExcName → Option Value} {mg mb : Str → Option Value} (n p b : Int) (tn tp tb : Tok)
    (hn : 0 ≤ n) (hn' : n < 2 ^ 4000) (hp : -1000 ≤ p) (hp' : p ≤ 1000) (hb : 2 ≤ b) (hb' : b ≤ 16) :
    Con w mean mg mb 229 3 [.int n tn, .int p tp, .int b tb] (fun v ex => ex = [] ∧ ∃ n' p' t, Strip b n p n' p' ∧ v = .str (S (scaledT n' p' b)) t) := by
  unfold Con
  k_fill
  intro dp un gd cn cs a ccd cl outer A₀ base h₀ L m news s Q E B F X N T hk hdp hun hret
  refine wpAny_call ?_
  k_dflt cell_enter
  iterate 2 walk1
  (rename Fr _ _ _ _ => lF'); (rename News _ _ _ _ => lN')
  (with_unfolding_all refine' my_while (σ := Int × Int × Tok × Tok) (fun c => [(Str.ofString "number", .int c.1 c.2.2.1), (Str.ofString "places", .int c.2.1 c.2.2.2)]) [] (fun c => SInv b n p c.1 c.2.1) (fun c => c.1.toNat) (fun c => SInv b n p c.1 c.2.1 ∧ Strip b n p c.1 c.2.1) (n, p, tn, tp) lF' lN' ?kk ?kp ?turn ?exit)
  case kk => kst_all
  case kp => exact SInv.start hn
  case turn =>
    clear lF' lN'
    rintro ⟨k, q, t1, t2⟩ u h9 tk9 hI F1 N1
    dsimp only at hI F1 N1 ⊢
    have hI0 := hI.1
    k_steps
    all_goals (try (rename News _ _ _ _ => nE'))
    · (refine' MwEnd.intro ((k.fdiv b, q - 1, _, _) : Int × Int × Tok × Tok) ?F ?N ?led ?kk ?rr ?g)
      walk_at "mine mw"
      case g => exact ⟨hI.step hb (by assumption) (by assumption), by have := fdiv_le hI0 hb; dsimp only; omega⟩
    all_goals (
      (refine' MwEnd.intro ((k, q, _, _) : Int × Int × Tok × Tok) ?F ?N ?led ?kk ?rr ?g)
      walk_at "mine mw"
      (case g => exact ⟨hI, hI.done (by intro _ _; first | assumption | (exfalso; omega))⟩))
  case exit =>
    clear lF' lN'
    rintro ⟨k, q, t1, t2⟩ u h9 tk9 ⟨hI, hS⟩ F1 N1
    dsimp only at hI hS F1 N1 ⊢
    have hk0 := hI.1
    have hkn : k < 2 ^ 4000 := Int.lt_of_le_of_lt hI.2.1 hn'
    have hf0 : (figT k b 1).length ≤ 4000 := figT_len_le hb hkn (by decide)
    have hf1 : (figT k b 1).length ≤ 10000 := Nat.le_trans hf0 (by decide)
    have hsz1 := figT_len_ge (l := 1) k hb
    have hbe : -79 ≤ behindI (figT k b 1).length q ∧ behindI (figT k b 1).length q ≤ 80 := by have h1 := minI_spec 80 (maxI q ((figT k b 1).length - 80)); have h2 := maxI_spec q ((figT k b 1).length - 80); unfold behindI; omega
    have hmo : 0 ≤ maxI 0 (1 - behindI (figT k b 1).length q) ∧ maxI 0 (1 - behindI (figT k b 1).length q) ≤ 80 ∧ 1 ≤ behindI (figT k b 1).length q + maxI 0 (1 - behindI (figT k b 1).length q) := by have h1 := maxI_spec 0 (1 - behindI (figT k b 1).length q); omega
    have hpw := pow_le_two hb hb' (show (maxI 0 (1 - behindI (figT k b 1).length q)).toNat ≤ 80 by omega)
    have hmul : IntMulOk k (b ^ (maxI 0 (1 - behindI (figT k b 1).length q)).toNat) := IntMulOk.of_bits (Nat.le_trans (bits_lt hk0 hkn) (by decide)) (Nat.le_trans (bits_lt hpw.1 hpw.2) (by decide))
    have hkb := mul_lt_two hk0 hkn hpw.1 hpw.2
    have hg1 : 0 ≤ k * b ^ (maxI 0 (1 - behindI (figT k b 1).length q)).toNat := hkb.1
    have hg2 : (figT (k * b ^ (maxI 0 (1 - behindI (figT k b 1).length q)).toNat) b (behindI (figT k b 1).length q + maxI 0 (1 - behindI (figT k b 1).length q) + 1)).length ≤ 5000 := Nat.le_trans (figT_len_le (k := 4000 + (4 * 80 + 1)) hb hkb.2 (by omega)) (by decide)
    have hg3 := figT_len_ge (l := behindI (figT k b 1).length q + maxI 0 (1 - behindI (figT k b 1).length q) + 1) (k * b ^ (maxI 0 (1 - behindI (figT k b 1).length q)).toNat) hb
    have hg4 := Nat.le_trans hg2 (show 5000 ≤ 10000 by decide)
    clear hpw hkb hkn hn' hI
    unfold behindI at hbe hmo hmul hg1 hg2 hg3 hg4
    k_steps
    · refine' ret0 hret (And.intro rfl ⟨k, q, _, hS, strEq' lit_nil (by unfold scaledT; rw [if_pos (by unfold behindI; omega)])⟩) ?F ?N ?led
      case F => assumption
      case N => assumption
      case led => walk_at "mine sub"
    · refine' ret0 hret (And.intro rfl ⟨k, q, _, hS, strEq' lit_nil (by unfold scaledT; rw [if_pos (by unfold behindI; omega)])⟩) ?F ?N ?led
      case F => assumption
      case N => assumption
      case led => walk_at "mine sub"
    · refine' ret0 hret (And.intro rfl ⟨k, q, _, hS, strEq' lit_nil (by unfold scaledT; rw [if_pos (by unfold behindI; omega)])⟩) ?F ?N ?led
      case F => assumption
      case N => assumption
      case led => walk_at "mine sub"
    · refine' ret0 hret (And.intro rfl ⟨k, q, _, hS, strEq (by unfold scaledT; rw [if_neg (by unfold behindI; omega)]; rfl)⟩) ?F ?N ?led
      case F => assumption
      case N => assumption
      case led => walk_at "mine sub"
theorem linesscaled_1 : True := by
  k_with "call ref" =>
    (
      (with_reducible show wpAny _ _ (call (Value.ref 229) _) _ _ _)
      k_dflt (refine' Con.use (scaled_con _ _ _ _ _ _ ?q9c1 ?q9c2 ?q9c3 ?q9c4 ?q9c5 ?q9c6) ?k1 ?k2 ?k3 ?k4 ?k5 ?kK ?kd ?ku ?_)
      (case q9c1 => first | with_reducible assumption | omega); (case q9c2 => first | with_reducible assumption | omega); (case q9c3 => first | with_reducible assumption | omega); (case q9c4 => first | with_reducible assumption | omega); (case q9c5 => first | with_reducible assumption | omega); (case q9c6 => first | with_reducible assumption | omega)
      walk_at "mine con"
      intro v9 ex9 h9 tk9 P9 lt9 F9 N9
      obtain ⟨hex9, n9, p9, t9, hS9, hv9⟩ := P9
      subst hex9 hv9
      (try simp only [List.nil_append] at N9)
      clear lt9
      (try k_sweep))
  trivial
end Mine

-- part real
namespace Mine
def MinP (b m p : Int) : Prop := 0 ≤ p ∧ p ≤ 480 ∧ (b ^ p.toNat).fmod m = 0 ∧ ∀ j : Nat, (j : Int) < p → (b ^ j).fmod m ≠ 0
def PInv (b m p : Int) : Prop := 0 ≤ p ∧ p ≤ 480 ∧ ∀ j : Nat, (j : Int) < p → (b ^ j).fmod m ≠ 0
def GoodR (top bottom b : Int) : Prop := (b ^ 480).fmod bottom = 0 ∧ ∀ p n' p', MinP b bottom p → Strip b ((top * b ^ p.toNat).fdiv bottom) p n' p' → scaledT n' p' b ≠ []
def RealAt (top bottom : Int) (x : List Nat) : Prop := ∃ b ∈ BS, ∃ p n' p', MinP b bottom p ∧ Strip b ((top * b ^ p.toNat).fdiv bottom) p n' p' ∧ x = scaledT n' p' b ∧ x ≠ []
theorem PInv.step {b m p : Int} (h : PInv b m p) (hz : (b ^ 480).fmod m = 0) (hn : (b ^ p.toNat).fmod m ≠ 0) : PInv b m (p + 1) := by
  obtain ⟨h0, h1, h2⟩ := h
  have hp : p ≠ 480 := fun e => by subst e; exact hn hz
  refine ⟨by omega, by omega, fun j hj => ?_⟩
  by_cases e : (j : Int) = p
  · have : j = p.toNat := by omega
    rw [this]; exact hn
  · exact h2 j (by omega)
theorem good_next {top bottom b : Int} {i : Nat} (hb : BS[i]? = some b) (hP : ∀ j < i, ∀ c, BS[j]? = some c → ¬ GoodR top bottom c) (h : ¬ GoodR top bottom b) : ∀ j < i + 1, ∀ c, BS[j]? = some c → ¬ GoodR top bottom c := by
  intro j hj c hc
  by_cases e : j = i
  · subst e; rw [hb] at hc; cases hc; exact h
  · exact hP j (by omega) c hc
theorem log_of {a : Int} {k : Nat} (h0 : 0 < a) (h : a < 2 ^ k) : a.natAbs.log2 < k := by
  have h3 : ((2 ^ k : Nat) : Int) = 2 ^ k := by simp
  exact (Nat.log2_lt (by omega)).mpr (by omega)
theorem fdiv_lt {a c : Int} {k : Int} (h0 : 0 ≤ a) (h1 : a < k) (hc : 0 < c) : 0 ≤ a.fdiv c ∧ a.fdiv c < k := by
  rw [Int.fdiv_eq_ediv_of_nonneg _ (by omega)]
  refine ⟨Int.ediv_nonneg h0 (by omega), ?_⟩
  exact Int.lt_of_le_of_lt (Int.ediv_le_self c h0) h1
set_option maxHeartbeats 8000000 in
theorem real_con {w : World} {mean : ExcName → Option Value} {mg mb : Str → Option Value} (top bottom : Int) (tt tb : Tok)
    (ht : 0 ≤ top) (ht' : top < 2 ^ 1500) (hb0 : 0 < bottom) (hb1 : bottom < 2 ^ 1500) (H : ∃ b ∈ BS, GoodR top bottom b) :
    Con w mean mg mb 236 4 [.int top tt, .int bottom tb] (fun v ex => ex = [] ∧ ∃ x t, v = .str (S x) t ∧ RealAt top bottom x) := by
  unfold Con
  k_fill
  intro dp un gd cn cs a ccd cl outer A₀ base h₀ L m news s Q E B F X N T hk hdp hun hret
  refine wpAny_call ?_
  k_dflt cell_enter
  iterate 2 walk1
  (rename Fr _ _ _ _ => lF'); (rename News _ _ _ _ => lN')
  (with_unfolding_all refine' For_invVF lF' ?k1 ?k2 ?_)
  case k1 => exact rfl
  case k2 => exact rfl
  walk1
  rename (KW w.params).In _ => kX
  obtain ⟨vs, hvs, hvi⟩ := bases_tup kX
  refine' iter_tup [Str.ofString "base", Str.ofString "text", Str.ofString "places"] (fun i => ∀ j < i, ∀ c, BS[j]? = some c → ¬ GoodR top bottom c) rfl rfl hvs hvi lF' lN' (by intro j hj; omega) ?turn ?done
  case done =>
    intro u h9 tk9 hP
    exfalso
    obtain ⟨b, hb, hacc⟩ := H
    obtain ⟨j, hj, hje⟩ := List.getElem_of_mem hb
    exact hP j hj b (by rw [List.getElem?_eq_getElem hj, hje]) hacc
  intro i b t u h9 tk9 own hb hP F1 N1
  clear lF' lN'
  dsimp only [envOf] at F1 N1
  have hb2 := BS_range b (List.mem_of_getElem? hb)
  have hbn : bottom ≠ 0 := by omega
  have hlog := log_of hb0 (k := 9000) (Int.lt_trans hb1 (by decide +kernel))
  have hpq : ∀ e : Nat, e ≤ 480 → 0 ≤ b ^ e ∧ b ^ e < 2 ^ 1921 := fun e he => pow_le_two hb2.1 hb2.2 he
  k_with "mine while" => (
    (rename Fr _ _ _ _ => lF'); (rename News _ _ _ _ => lN')
    (with_unfolding_all refine' my_while (σ := Int × Tok) (fun c => [(Str.ofString "places", .int c.1 c.2)]) [] (fun c => PInv b bottom c.1) (fun c => (480 - c.1).toNat) (fun c => MinP b bottom c.1) (0, _) lF' lN' ?kk ?kp ?_ ?_)
    (case kk => kst_all)
    (case kp => exact ⟨Int.le_refl _, by omega, fun j hj => by dsimp only at hj; omega⟩)
    all_goals (
      clear lF' lN'
      rintro ⟨q, t1⟩ u2 h2 tk2 hI F2 N2
      (try dsimp only at hI F2 N2)
      dsimp only
      have hq0 := hI.1
      have hq1 := hI.2.1
      have hpq1 := hpq q.toNat (by omega)
      have hmu : IntMulOk top (b ^ q.toNat) := IntMulOk.of_bits (Nat.le_trans (bits_lt ht ht') (by decide)) (Nat.le_trans (bits_lt hpq1.1 hpq1.2) (by decide))
      have hmm := mul_lt_two ht ht' hpq1.1 hpq1.2
      have hnum := fdiv_lt (k := 2 ^ 4000) hmm.1 (Int.lt_trans hmm.2 (by decide +kernel)) hb0
      have hn0 := hnum.1
      have hn1 := hnum.2
      clear hpq1 hmm hnum))
  k_steps
  · (refine' MwEnd.intro ((q + 1, _) : Int × Tok) ?F ?N ?led ?kk ?rr ?g)
    walk_at "mine mw"
    case g => exact ⟨hI.step (by assumption) (by assumption), by dsimp only; have := (hI.step (by assumption) (by assumption)).2.1; omega⟩
  · (refine' MwEnd.intro ((q, _) : Int × Tok) ?F ?N ?led ?kk ?rr ?g)
    walk_at "mine mw"
    case g => exact ⟨hq0, hq1, by assumption, hI.2.2⟩
  · (refine' ret0 hret (And.intro rfl ⟨_, _, rfl, b, List.mem_of_getElem? hb, q, _, _, hI, by assumption, rfl, by assumption⟩) ?F ?N ?led)
    case F => assumption
    case N => assumption
    case led => walk_at "mine sub"
  · refine' TupEnd.intro ?F ?N ?hn ?hm ?hp
    case F => assumption
    case N => assumption
    case hn => walk_at "mine sub"
    case hm => walk_at "mine same3"
    case hp => exact good_next hb hP (fun hg => absurd (hg.2 q _ _ hI (by assumption)) (by assumption))
  · refine' TupEnd.intro ?F ?N ?hn ?hm ?hp
    case F => assumption
    case N => assumption
    case hn => walk_at "mine sub"
    case hm => walk_at "mine same3"
    case hp => exact good_next hb hP (fun hg => absurd hg.1 (by assumption))

end Mine

-- part gcd
namespace Mine
theorem gcd_turn {a b : Int} (h0 : 0 ≤ a) (h1 : 0 < b) : Int.gcd b (a.fmod b) = Int.gcd a b := by
  rw [Int.fmod_eq_emod_of_nonneg _ (by omega)]
  obtain ⟨m, rfl⟩ := Int.eq_ofNat_of_zero_le h0
  obtain ⟨k, rfl⟩ := Int.eq_ofNat_of_zero_le (Int.le_of_lt h1)
  show Nat.gcd k (m % k) = Nat.gcd m k
  rw [Nat.gcd_comm m k, Nat.gcd_rec k m, Nat.gcd_comm]
def GInv (a b a' b' : Int) : Prop := 0 ≤ a' ∧ 0 ≤ b' ∧ Int.gcd a' b' = Int.gcd a b
theorem GInv.step {a b a' b' : Int} (h : GInv a b a' b') (h1 : 0 < b') : GInv a b b' (a'.fmod b') := by
  refine ⟨h.2.1, ?_, by rw [gcd_turn h.1 h1]; exact h.2.2⟩
  rw [Int.fmod_eq_emod_of_nonneg _ (by omega)]
  exact Int.emod_nonneg _ (by omega)
theorem fmod_less {a b : Int} (h0 : 0 ≤ a) (h1 : 0 < b) : (a.fmod b).toNat < b.toNat := by
  rw [Int.fmod_eq_emod_of_nonneg _ (by omega)]
  have := Int.emod_lt_of_pos a h1
  have := Int.emod_nonneg a (by omega : b ≠ 0)
  omega
theorem GInv.done {a b a' b' : Int} (h : GInv a b a' b') (h1 : ¬ 0 < b') : a' = (Int.gcd a b : Int) := by
  have : b' = 0 := by have := h.2.1; omega
  subst this
  rw [← h.2.2, Int.gcd_zero_right]
  have := h.1; omega
set_option maxHeartbeats 8000000 in
theorem common_con {w : World} {mean : ExcName → Option Value} {mg mb : Str → Option Value} (a b : Int) (ta tb : Tok) (ha : 0 ≤ a) (hb : 0 ≤ b) :
    Con w mean mg mb 250 1 [.int a ta, .int b tb] (fun v ex => ex = [] ∧ ∃ t, v = .int (Int.gcd a b : Int) t) := by
  unfold Con
  k_fill
  intro dp un gd cn cs ad ccd cl outer A₀ base h₀ L m news s Q E B F X N T hk hdp hun hret
  refine wpAny_call ?_
  k_dflt cell_enter
  k_with "mine while" => (
    (rename Fr _ _ _ _ => lF'); (rename News _ _ _ _ => lN')
    (with_unfolding_all refine' my_while (σ := Int × Int × Tok × Tok) (fun c => [(Str.ofString "a", .int c.1 c.2.2.1), (Str.ofString "b", .int c.2.1 c.2.2.2)]) [] (fun c => GInv a b c.1 c.2.1) (fun c => c.2.1.toNat) (fun c => c.1 = (Int.gcd a b : Int)) (a, b, ta, tb) lF' lN' ?kk ?kp ?_ ?_)
    (case kk => kst_all)
    (case kp => exact ⟨ha, hb, rfl⟩)
    all_goals (
      clear lF' lN'
      rintro ⟨q, r, t1, t2⟩ u2 h2 tk2 hI F2 N2
      (try dsimp only at hI F2 N2)
      dsimp only))
  k_steps
  · (refine' MwEnd.intro ((r, q.fmod r, _, _) : Int × Int × Tok × Tok) ?F ?N ?led ?kk ?rr ?g)
    walk_at "mine mw"
    case g => exact ⟨hI.step (by assumption), fmod_less hI.1 (by assumption)⟩
  · (refine' MwEnd.intro ((q, r, _, _) : Int × Int × Tok × Tok) ?F ?N ?led ?kk ?rr ?g)
    walk_at "mine mw"
    case g => exact hI.done (by assumption)
  · (refine' ret0 hret (And.intro rfl ⟨_, by rw [← hI]⟩) ?F ?N ?led)
    case F => assumption
    case N => assumption
    case led => walk_at "mine sub"
set_option maxHeartbeats 8000000 in
theorem divisor_con {w : World} {mean : ExcName → Option Value} {mg mb : Str → Option Value} (a b : Int) (ta tb : Tok) (ha : 0 ≤ a) (hb : 0 ≤ b) :
    Con w mean mg mb 87 1 [.int a ta, .int b tb] (fun v ex => ex = [] ∧ ∃ t, v = .int (Int.gcd a b : Int) t) := by
  unfold Con
  k_fill
  intro dp un gd cn cs ad ccd cl outer A₀ base h₀ L m news s Q E B F X N T hk hdp hun hret
  refine wpAny_call ?_
  k_dflt cell_enter
  k_with "mine while" => (
    (rename Fr _ _ _ _ => lF'); (rename News _ _ _ _ => lN')
    rw [if_neg (show ¬ a < 0 by omega), if_neg (show ¬ b < 0 by omega)] at lF'
    (with_unfolding_all refine' my_while (σ := Int × Int × Tok × Tok) (fun c => [(Str.ofString "a", .int c.1 c.2.2.1), (Str.ofString "b", .int c.2.1 c.2.2.2)]) [] (fun c => GInv a b c.1 c.2.1) (fun c => c.2.1.toNat) (fun c => c.1 = (Int.gcd a b : Int)) (a, b, _, _) lF' lN' ?kk ?kp ?_ ?_)
    (case kk => kst_all)
    (case kp => exact ⟨ha, hb, rfl⟩)
    all_goals (
      clear lF' lN'
      rintro ⟨q, r, t1, t2⟩ u2 h2 tk2 hI F2 N2
      (try dsimp only at hI F2 N2)
      dsimp only))
  k_steps
  · (refine' MwEnd.intro ((r, q.fmod r, _, _) : Int × Int × Tok × Tok) ?F ?N ?led ?kk ?rr ?g)
    walk_at "mine mw"
    case g => exact ⟨hI.step (by assumption), fmod_less hI.1 (by assumption)⟩
  · (refine' MwEnd.intro ((q, r, _, _) : Int × Int × Tok × Tok) ?F ?N ?led ?kk ?rr ?g)
    walk_at "mine mw"
    case g => exact hI.done (by assumption)
  · (refine' ret0 hret (And.intro rfl ⟨_, by rw [← hI]⟩) ?F ?N ?led)
    case F => assumption
    case N => assumption
    case led => walk_at "mine sub"
theorem linesgcd_1 : True := by
  k_with "mine gcd" =>
    (
      (case c1 => first | with_reducible assumption | omega); (case c2 => first | with_reducible assumption | omega)
      walk_at "mine con"
      intro v9 ex9 h9 tk9 P9 lt9 F9 N9
      obtain ⟨hex9, t9, hv9⟩ := P9
      subst hex9 hv9
      (try simp only [List.nil_append] at N9)
      clear lt9
      (try k_sweep))
  k_with "call ref" =>
    (
      (with_reducible show wpAny _ _ (call (Value.ref 250) _) _ _ _)
      k_dflt (refine' Con.use (common_con _ _ _ _ ?c1 ?c2) ?k1 ?k2 ?k3 ?k4 ?k5 ?kK ?kd ?ku ?_)
      walk_at "mine gcd")
  k_with "call ref" =>
    (
      (with_reducible show wpAny _ _ (call (Value.ref 87) _) _ _ _)
      k_dflt (refine' Con.use (divisor_con _ _ _ _ ?c1 ?c2) ?k1 ?k2 ?k3 ?k4 ?k5 ?kK ?kd ?ku ?_)
      walk_at "mine gcd")
  trivial
end Mine

-- part ratio
namespace Mine
set_option maxHeartbeats 8000000 in
theorem ratio_con {w : World} {mean : ExcName → Option Value} {mg mb : Str → Option Value} (a b : Int) (ta tb : Tok) (ha : 0 ≤ a) (hb : 0 < b) (hb' : b < 2 ^ 4000)
    (h1 : a.fdiv (Int.gcd a b) ≤ 10 ^ 700) (h2 : b.fdiv (Int.gcd a b) ≤ 10 ^ 700) (h10 : 0 ≤ a.fdiv (Int.gcd a b)) :
    Con w mean mg mb 94 2 [.int a ta, .int b tb] (fun v ex => ∃ D t1 t2, v = .ref D ∧ ex = [(D, { cls := .type "tuple", data := .seq [.int (a.fdiv (Int.gcd a b)) t1, .int (b.fdiv (Int.gcd a b)) t2].toArray })]) := by
  unfold Con
  k_fill
  intro dp un gd cn cs ad ccd cl outer A₀ base h₀ L m news s Q E B F X N T hk hdp hun hret
  have hg0 : 0 < (Int.gcd a b : Int) := by
    have := Int.gcd_pos_of_ne_zero_right a (by omega : b ≠ 0)
    omega
  have hgle : (Int.gcd a b : Int) ≤ b := Int.le_of_dvd hb (Int.gcd_dvd_right a b)
  have hlog := log_of hg0 (k := 9000) (Int.lt_of_le_of_lt hgle (Int.lt_trans hb' (by decide +kernel)))
  have hb0 : 0 ≤ b := by omega
  have hbn : ¬ b = 0 := by omega
  have hbn2 : ¬ b < 0 := by omega
  have hgn : (Int.gcd a b : Int) ≠ 0 := by omega
  refine wpAny_call ?_
  k_dflt cell_enter
  clear hb' hgle
  k_steps
  · exfalso; omega
  · (refine' ret1 hret ⟨_, _, _, rfl, rfl⟩ ?F ?N ?D ?led ?lt)
    case F => assumption
    case N => assumption
    case D => exact List.mem_cons_self ..
    case led => walk_at "mine sub"
    case lt => assumption

end Mine

-- part sign
namespace Mine
set_option maxHeartbeats 8000000 in
theorem small_con {w : World} {mean : ExcName → Option Value} {mg mb : Str → Option Value} (c : Nat) (ta : Tok) :
    Con w mean mg mb 102 1 [.str (S [c]) ta] (fun v ex => ex = [] ∧ ∃ t, v = .str (S [lowC c]) t) := by
  unfold Con
  k_fill
  intro dp un gd cn cs ad ccd cl outer A₀ base h₀ L m news s Q E B F X N T hk hdp hun hret
  refine wpAny_call ?_
  k_dflt cell_enter
  k_steps
  all_goals (refine' ret0 hret (And.intro rfl (Exists.intro _ (strEq ?e))) ?F ?N ?led; (case F => assumption); (case N => assumption); (case led => walk_at "mine sub"); (case e => unfold lowC; split <;> first | rfl | (simp only [List.cons.injEq, and_true]; omega)))
set_option maxHeartbeats 8000000 in
theorem small_con0 {w : World} {mean : ExcName → Option Value} {mg mb : Str → Option Value} (ta : Tok) :
    Con w mean mg mb 102 1 [.str (S []) ta] (fun v ex => ex = [] ∧ ∃ t, v = .str (S []) t) := by
  unfold Con
  k_fill
  intro dp un gd cn cs ad ccd cl outer A₀ base h₀ L m news s Q E B F X N T hk hdp hun hret
  refine wpAny_call ?_
  k_dflt cell_enter
  k_steps
  all_goals (refine' ret0 hret (And.intro rfl (Exists.intro _ rfl)) ?F ?N ?led; (case F => assumption); (case N => assumption); (case led => walk_at "mine sub"))
theorem linessign_1 : True := by
  k_with "mine small" =>
    (
      walk_at "mine con"
      intro v9 ex9 h9 tk9 P9 lt9 F9 N9
      obtain ⟨hex9, t9, hv9⟩ := P9
      subst hex9 hv9
      (try simp only [List.nil_append] at N9)
      clear lt9
      (try k_sweep))
  k_with "call ref" =>
    (
      (with_reducible show wpAny _ _ (call (Value.ref 102) [Value.str (S (_ :: _)) _]) _ _ _)
      k_dflt (refine' Con.use (small_con _ _) ?k1 ?k2 ?k3 ?k4 ?k5 ?kK ?kd ?ku ?_)
      walk_at "mine small")
  k_with "call ref" =>
    (
      (with_reducible show wpAny _ _ (call (Value.ref 102) [Value.str (S []) _]) _ _ _)
      k_dflt (refine' Con.use (small_con0 _) ?k1 ?k2 ?k3 ?k4 ?k5 ?kK ?kd ?ku ?_)
      walk_at "mine small")
  trivial
end Mine

-- part letter
namespace Mine
theorem not_letter {c : Nat} (h : c < 65) : decide (lowC c ∈ (Str.ofString "abcdefghijklmnopqrstuvwxyz").cps.toList) = false := by
  have e : lowC c = c := by unfold lowC; rw [if_neg (by omega)]
  rw [e]
  have hl : (Str.ofString "abcdefghijklmnopqrstuvwxyz").cps.toList = [97, 98, 99, 100, 101, 102, 103, 104, 105, 106, 107, 108, 109, 110, 111, 112, 113, 114, 115, 116, 117, 118, 119, 120, 121, 122] := by decide
  rw [hl]
  refine decide_eq_false (fun hm => ?_)
  simp only [List.mem_cons, List.not_mem_nil, or_false] at hm
  omega
set_option maxHeartbeats 8000000 in
theorem letter_con {w : World} {mean : ExcName → Option Value} {mg mb : Str → Option Value} (c : Nat) (ta : Tok) (hc : c < 65) :
    Con w mean mg mb 109 2 [.str (S [c]) ta] (fun v ex => ex = [] ∧ v = .bool false) := by
  unfold Con
  k_fill
  intro dp un gd cn cs ad ccd cl outer A₀ base h₀ L m news s Q E B F X N T hk hdp hun hret
  refine wpAny_call ?_
  k_dflt cell_enter
  k_steps
  all_goals (refine' ret0 hret (And.intro rfl (congrArg Value.bool ?e)) ?F ?N ?led; (case F => assumption); (case N => assumption); (case led => walk_at "mine sub"); (case e => first | exact not_letter hc | (exfalso; simp_all; done) | (simp; done)))
set_option maxHeartbeats 8000000 in
theorem letter_con0 {w : World} {mean : ExcName → Option Value} {mg mb : Str → Option Value} (ta : Tok) :
    Con w mean mg mb 109 2 [.str (S []) ta] (fun v ex => ex = [] ∧ v = .bool false) := by
  unfold Con
  k_fill
  intro dp un gd cn cs ad ccd cl outer A₀ base h₀ L m news s Q E B F X N T hk hdp hun hret
  refine wpAny_call ?_
  k_dflt cell_enter
  k_steps
  all_goals (refine' ret0 hret (And.intro rfl (congrArg Value.bool ?e)) ?F ?N ?led; (case F => assumption); (case N => assumption); (case led => walk_at "mine sub"); (case e => first | exact not_letter hc | (exfalso; simp_all; done) | (simp; done)))
theorem linesletter_1 : True := by
  k_with "mine bool" =>
    (
      walk_at "mine con"
      intro v9 ex9 h9 tk9 P9 lt9 F9 N9
      obtain ⟨hex9, hv9⟩ := P9
      subst hex9 hv9
      (try simp only [List.nil_append] at N9)
      clear lt9
      (try k_sweep))
  k_with "call ref" =>
    (
      (with_reducible show wpAny _ _ (call (Value.ref 109) [Value.str (S []) _]) _ _ _)
      k_dflt (refine' Con.use (letter_con0 _) ?k1 ?k2 ?k3 ?k4 ?k5 ?kK ?kd ?ku ?_)
      walk_at "mine bool")
  k_with "call ref" =>
    (
      (with_reducible show wpAny _ _ (call (Value.ref 109) [Value.str (S (_ :: _)) _]) _ _ _)
      k_dflt (refine' Con.use (letter_con _ _ ?q9c1) ?k1 ?k2 ?k3 ?k4 ?k5 ?kK ?kd ?ku ?_)
      (case q9c1 => first | with_reducible assumption | omega)
      walk_at "mine bool")
  trivial
end Mine

-- part npart
namespace Mine
set_option maxHeartbeats 8000000 in
theorem part_con0 {w : World} {mean : ExcName → Option Value} {mg mb : Str → Option Value} (ta : Tok) :
    Con w mean mg mb 116 3 [.str (S []) ta] (fun v ex => ex = [] ∧ v = .bool false) := by
  unfold Con
  k_fill
  intro dp un gd cn cs ad ccd cl outer A₀ base h₀ L m news s Q E B F X N T hk hdp hun hret
  refine wpAny_call ?_
  k_dflt cell_enter
  k_steps
  all_goals (refine' ret0 hret (And.intro rfl (congrArg Value.bool ?e)) ?F ?N ?led; (case F => assumption); (case N => assumption); (case led => walk_at "mine sub"); (case e => (simp; done)))
theorem linesnpart_1 : True := by
  k_with "call ref" =>
    (
      (with_reducible show wpAny _ _ (call (Value.ref 116) [Value.str (S []) _]) _ _ _)
      k_dflt (refine' Con.use (part_con0 _) ?k1 ?k2 ?k3 ?k4 ?k5 ?kK ?kd ?ku ?_)
      walk_at "mine bool")
  trivial
end Mine

-- part numl
namespace Mine
def figI (c : Nat) : Int := Txt.find (Str.ofString "0123456789abcdef") (S [c])
theorem figI_sgn : ∀ d : Nat, d < 16 → figI (lowC (sgn d)) = (d : Int) := by decide +kernel
theorem figI_35 : figI (lowC 35) = -1 := by decide +kernel
theorem figI_46 : figI (lowC 46) = -1 := by decide +kernel
theorem figI_69 : figI (lowC 69) = 14 := by decide +kernel
theorem sgn_range {d : Nat} (h : d < 16) : (48 ≤ sgn d ∧ sgn d ≤ 57) ∨ (97 ≤ sgn d ∧ sgn d ≤ 102) := by unfold sgn; split <;> omega
section
variable {prog : Program} {w : World} {A : Around} {E : Value → Shared → Prop} {s : Shared} {t u : Tok} {Q : Value → Shared → Prop}
theorem find_fig {c : Nat} {z : Int} (hz : figI c = z) (h : ∀ t' tk, Q (.int z t') { s with toks := tk }) :
    wpAny (model prog w) A (call (.builtin "str.find") [.str (Str.ofString "0123456789abcdef") t, .str (S [c]) u]) Q E s := by
  refine SC.find ?_
  show Q (.int (figI c) _) _
  rw [hz]; exact h _ _
theorem eq_S1 {a b : Nat} {x y : PySem.Str} (hx : x = S [a]) (hy : y = S [b]) (h : Q (.bool (decide (a = b))) s) : wpAny (model prog w) A (compareOp .Eq (.str x t) (.str y u)) Q E s := by
  refine eq_S hx hy ?_
  have e : decide ([a] = [b]) = decide (a = b) := by rw [Bool.eq_iff_iff]; simp
  rw [e]; exact h
end
def TermP (b : Int) : List Nat → Prop
  | [] => True
  | c :: _ => c = 35 ∨ c = 46 ∨ (c = 69 ∧ b ≤ 10)
theorem drop_get {l r : List Nat} {i : Int} (h0 : 0 ≤ i) (hd : l.drop i.toNat = r) (k : Nat) : l[(i + (k : Int)).toNat]? = r[k]? := by
  rw [← hd, List.getElem?_drop]
  congr 1
  omega
theorem val_take {b : Int} {ds : List Nat} {k : Nat} {d : Nat} (hb : 0 ≤ b) (hd : ds[k]? = some d) : ((val b.toNat (ds.take k) : Nat) : Int) * b + (d : Int) = ((val b.toNat (ds.take (k + 1)) : Nat) : Int) := by
  rw [List.take_add_one, hd]
  show _ = ((val b.toNat (ds.take k ++ [d]) : Nat) : Int)
  rw [val_snoc]
  have : ((b.toNat : Nat) : Int) = b := by omega
  rw [Int.natCast_add, Int.natCast_mul, this]
def NInv (b : Int) (ds : List Nat) (i v c e : Int) : Prop := ∃ k : Nat, k ≤ ds.length ∧ v = ((val b.toNat (ds.take k) : Nat) : Int) ∧ c = (k : Int) ∧ e = i + (k : Int)
def NEx (b : Int) (ds : List Nat) (i v c e : Int) : Prop := v = ((val b.toNat ds : Nat) : Int) ∧ c = (ds.length : Int) ∧ e = i + (ds.length : Int)
theorem NEx.of {b : Int} {ds : List Nat} {i : Int} {k : Nat} (h : k = ds.length) : NEx b ds i ((val b.toNat (ds.take k) : Nat) : Int) (k : Int) (i + (k : Int)) := by
  subst h
  rw [List.take_length]
  exact ⟨rfl, rfl, rfl⟩
theorem linesnuml_1 : True := by
  k_with "compareOp Eq str str" =>
    ((with_reducible show wpAny _ _ (compareOp CmpOp.Eq (Value.str _ _) (Value.str _ _)) _ _ _); (refine' eq_S1 ?q9hx ?q9hy ?_); (case q9hx => walk_at "mine lit"); (case q9hy => walk_at "mine lit"))
  k_with "call builtin:str.find" =>
    ((with_reducible show wpAny _ _ (call (Value.builtin "str.find") [Value.str (Str.ofString "0123456789abcdef") _, Value.str (S _) _]) _ _ _); (refine' find_fig ?q9hz ?_); (case q9hz => with_reducible assumption); intro _ _)
  k_with "mine at" =>
    with_reducible assumption
  trivial
set_option maxHeartbeats 8000000 in
theorem numl_con {w : World} {mean : ExcName → Option Value} {mg mb : Str → Option Value} (l ds post : List Nat) (i b ln : Int) (t0 ti tb tn : Tok)
    (hlen : l.length ≤ 1000) (hi : 0 ≤ i) (hd : l.drop i.toNat = ds.map sgn ++ post) (hb : 2 ≤ b) (hb' : b ≤ 16) (hds : ∀ d ∈ ds, (d : Int) < b) (hd1 : 1 ≤ ds.length) (hd80 : ds.length ≤ 80) (hp : TermP b post) :
    Con w mean mg mb 137 2 [.str (S l) t0, .int i ti, .int b tb, .int ln tn] (fun v ex => ∃ D t1 t2 t3, v = .ref D ∧ ex = [(D, { cls := .type "tuple", data := .seq [.int ((val b.toNat ds : Nat) : Int) t1, .int (ds.length : Int) t2, .int (i + (ds.length : Int)) t3].toArray })]) := by
  have hll : (l.length : Int) = i + ds.length + post.length := by
    have := congrArg List.length hd
    rw [List.length_drop, List.length_append, List.length_map] at this
    omega
  unfold Con
  k_fill
  intro dp un gd cn cs ad ccd cl outer A₀ base h₀ L m news s Q E B F X N T hk hdp hun hret
  refine wpAny_call ?_
  k_dflt cell_enter
  walk_at "mine to while"
  (rename Fr _ _ _ _ => lF'); (rename News _ _ _ _ => lN')
  (with_unfolding_all refine' my_while (σ := Int × Int × Int × Tok × Tok × Tok) (fun c => [(Str.ofString "value", .int c.1 c.2.2.2.1), (Str.ofString "count", .int c.2.1 c.2.2.2.2.1), (Str.ofString "end", .int c.2.2.1 c.2.2.2.2.2)]) [Str.ofString "figure"] (fun c => NInv b ds i c.1 c.2.1 c.2.2.1) (fun c => (ds.length - c.2.1).toNat) (fun c => NEx b ds i c.1 c.2.1 c.2.2.1) (0, 0, i, _, _, _) lF' lN' ?kk ?kp ?turn ?exit)
  case kk => kst_all
  case kp => exact ⟨0, Nat.zero_le _, rfl, rfl, by simp⟩
  case exit =>
    clear lF' lN'
    rintro ⟨v, c, e, t1, t2, t3⟩ u2 h2 tk2 ⟨hv, hc, he⟩ F2 N2
    dsimp only at hv hc he F2 N2 ⊢
    subst hv hc he
    k_steps
    · exfalso; omega
    · (refine' ret1 hret ⟨_, _, _, _, rfl, rfl⟩ ?F ?N ?D ?led ?lt)
      case F => assumption
      case N => assumption
      case D => exact List.mem_cons_self ..
      case led => walk_at "mine sub"
      case lt => assumption
  case turn =>
    clear lF' lN'
    rintro ⟨v, c, e, t1, t2, t3⟩ u2 h2 tk2 ⟨k, hk, hv, hc, he⟩ F2 N2
    dsimp only at hv hc he F2 N2 ⊢
    subst hv hc he
    by_cases hkd : k < ds.length
    · obtain ⟨d, hdk⟩ : ∃ d, ds[k]? = some d := ⟨_, List.getElem?_eq_getElem hkd⟩
      have hdb := hds d (List.mem_of_getElem? hdk)
      have hd16 : d < 16 := by omega
      have hcc : l[(i + (k : Int)).toNat]? = some (sgn d) := by rw [drop_get hi hd k, List.getElem?_append_left (by simpa using hkd), List.getElem?_map, hdk]; rfl
      have hfig := figI_sgn d hd16
      have hsr := sgn_range hd16
      k_steps
      all_goals (
        (refine' MwEnd.intro ((_, _, _, _, _, _) : Int × Int × Int × Tok × Tok × Tok) ?F ?N ?led ?kk ?rr ?g)
        walk_at "mine mw"
        (case g => exact ⟨⟨k + 1, by omega, val_take (by omega) hdk, by dsimp only; omega, by dsimp only; omega⟩, by dsimp only; omega⟩))
    · have hke : k = ds.length := by omega
      rcases post with _ | ⟨c, r⟩
      · simp only [List.length_nil] at hll
        k_steps
        (refine' MwEnd.intro ((_, _, _, _, _, _) : Int × Int × Int × Tok × Tok × Tok) ?F ?N ?led ?kk ?rr ?g)
        walk_at "mine mw"
        case g => exact NEx.of hke
      · have hcc : l[(i + (k : Int)).toNat]? = some c := by rw [drop_get hi hd k, List.getElem?_append_right (by simp; omega)]; simp [hke]
        simp only [List.length_cons] at hll
        rcases hp with rfl | rfl | ⟨rfl, hb10⟩
        · have hfig := figI_35
          k_steps
          (refine' MwEnd.intro ((_, _, _, _, _, _) : Int × Int × Int × Tok × Tok × Tok) ?F ?N ?led ?kk ?rr ?g)
          walk_at "mine mw"
          case g => exact NEx.of hke
        · have hfig := figI_46
          k_steps
          (refine' MwEnd.intro ((_, _, _, _, _, _) : Int × Int × Int × Tok × Tok × Tok) ?F ?N ?led ?kk ?rr ?g)
          walk_at "mine mw"
          case g => exact NEx.of hke
        · have hfig := figI_69
          k_steps
          (refine' MwEnd.intro ((_, _, _, _, _, _) : Int × Int × Int × Tok × Tok × Tok) ?F ?N ?led ?kk ?rr ?g)
          walk_at "mine mw"
          case g => exact NEx.of hke
theorem numl_con' {w : World} {mean : ExcName → Option Value} {mg mb : Str → Option Value} (l ds post : List Nat) (i b ln V e : Int) (t0 ti tb tn : Tok)
    (hlen : l.length ≤ 1000) (hi : 0 ≤ i) (hd : l.drop i.toNat = ds.map sgn ++ post) (hb : 2 ≤ b) (hb' : b ≤ 16) (hds : ∀ d ∈ ds, (d : Int) < b) (hd1 : 1 ≤ ds.length) (hd80 : ds.length ≤ 80) (hp : TermP b post)
    (hV : ((val b.toNat ds : Nat) : Int) = V) (he : i + (ds.length : Int) = e) :
    Con w mean mg mb 137 2 [.str (S l) t0, .int i ti, .int b tb, .int ln tn] (fun v ex => ∃ D t1 t2 t3, v = .ref D ∧ ex = [(D, { cls := .type "tuple", data := .seq [.int V t1, .int (ds.length : Int) t2, .int e t3].toArray })]) := by
  subst hV he
  exact numl_con l ds post i b ln t0 ti tb tn hlen hi hd hb hb' hds hd1 hd80 hp
theorem linesnuml_2 : True := by
  k_with "call ref" =>
    (
      (with_reducible show wpAny _ _ (call (Value.ref 137) _) _ _ _)
      k_dflt (refine' Con.use (numl_con' _ _ _ _ _ _ _ _ _ _ _ _ ?q9c1 ?q9c2 ?q9c3 ?q9c4 ?q9c5 ?q9c6 ?q9c7 ?q9c8 ?q9c9 ?q9cV ?q9cE) ?k1 ?k2 ?k3 ?k4 ?k5 ?kK ?kd ?ku ?_)
      (case q9c3 => with_reducible assumption)
      (case q9c1 => first | with_reducible assumption | omega); (case q9c2 => first | with_reducible assumption | omega); (case q9c4 => first | with_reducible assumption | omega); (case q9c5 => first | with_reducible assumption | omega); (case q9c6 => with_reducible assumption); (case q9c7 => with_reducible assumption); (case q9c8 => with_reducible assumption); (case q9c9 => with_reducible assumption); (case q9cV => first | with_reducible assumption | exact rfl); (case q9cE => first | with_reducible assumption | exact rfl)
      walk_at "mine con"
      intro v9 ex9 h9 tk9 P9 lt9 F9 N9
      obtain ⟨D9, t7, t8, t9, hv9, hex9⟩ := P9
      subst hex9 hv9
      (try simp only [List.nil_append, List.cons_append] at N9)
      (have l9 := fun p hp => lt9 p hp _ (List.mem_cons_self ..))
      clear lt9
      (try k_lt l9)
      (try k_sweep))
  trivial
end Mine

-- part txt2
namespace Mine
section
variable {prog : Program} {w : World} {A : Around} {E : Value → Shared → Prop} {s : Shared} {value slice : PySem.Expr} {l r : List Nat} {t u : Tok} {i j : Int} {Q : Value → Shared → Prop} {h₀ : Heap} {L : Addr} {m : PySem.Str → Option Value} {news : List (Addr × Obj)}
theorem slice_E_ss {ui uj : Tok} (hF : Fr h₀ L s.heap m) (hN : News h₀ L s.heap news) (h0 : 0 ≤ i) (hij : i ≤ j) (hsz : l.length ≤ 100000) (he : (l.drop i.toNat).take (j - i).toNat = r) (h : ∀ h' t' k, Fr h₀ L h' m → News h₀ L h' news → Q (.str (S r) t') { s with heap := h', toks := k })
    (hs : subscripted slice false (.str (S l) t) (.ref s.heap.objs.size) = operate [.ref s.heap.objs.size, .str (S l) t] (getItem (.str (S l) t) (.ref s.heap.objs.size)) := by with_unfolding_all rfl)
    (ht : ∀ r, letTemporaryGo value (.str (S l) t) r = pure () := by intro _; with_unfolding_all rfl) :
    wpAny (model prog w) A (subscriptTail value slice (.str (S l) t) (.ref s.heap.objs.size)) Q E { s with heap := s.heap.push { cls := .type "slice", data := .fields #[.int i ui, .int j uj, .none] } } := by
  subst he; exact slice_S_ss hF hN h0 hij hsz h hs ht
end
def expoT (p : Int) : List Nat := if p = 0 then [] else [69] ++ ((if p < 0 then [45] else []) ++ decT (if p < 0 then -p else p))
def decD (n : Int) : List Nat := digs 10 n.toNat 1
theorem decT_eq (n : Int) : decT n = (decD n).map sgn := rfl
theorem decD_lt (n : Int) : ∀ d ∈ decD n, (d : Int) < 10 := fun d hd => by have := digs_lt (b := 10) (by decide) n.toNat 1 d hd; omega
theorem decD_ge (n : Int) : 1 ≤ (decD n).length := digs_len_ge (by decide) _ _
theorem decD_le {n : Int} (h : n < 1000000) : (decD n).length ≤ 6 := digs_len_le (by decide) _ _ 6 (by show n.toNat < 10 ^ 6; omega) (by decide)
theorem decD_val {n : Int} (h : 0 ≤ n) : ((val (Int.toNat 10) (decD n) : Nat) : Int) = n := by
  show ((val 10 (digs 10 n.toNat 1) : Nat) : Int) = n
  rw [val_digs (by decide)]; omega
theorem drop_drop' {l a r : List Nat} {i j : Int} (h0 : 0 ≤ i) (h : l.drop i.toNat = a ++ r) (hj : j = i + a.length) : l.drop j.toNat = r := by
  have : j.toNat = i.toNat + a.length := by omega
  rw [this, ← List.drop_drop, h, List.drop_left]
theorem allLt_mem {d : Addr} : ∀ {l : List (Addr × Obj)}, AllLt d l → ∀ p ∈ l, p.1 < d
  | [], _, _, h => nomatch h
  | q :: r, h, p, hp => by
    rcases List.mem_cons.mp hp with rfl | hp
    · exact h.1
    · exact allLt_mem h.2 p hp
theorem linestxt2_1 : True := by
  k_with "mine at" =>
    with_reducible assumption
  k_with "compareOp Eq str str" =>
    ((with_reducible show wpAny _ _ (compareOp CmpOp.Eq (Value.str _ _) (Value.str _ _)) _ _ _); (refine' eq_S1 ?q9hx ?q9hy ?_); (case q9hx => walk_at "mine lit"); (case q9hy => walk_at "mine lit"))
  k_with "subscriptTail Name Slice str ref" =>
    ((with_reducible show wpAny _ _ (subscriptTail _ (Expr.Slice (some _) (some _) none _) (Value.str (S _) _) (Value.ref _)) _ _ _); (with_reducible rename Fr _ _ _ _ => F'); (with_reducible rename News _ _ _ _ => N'); (refine' slice_E_ss (s := ⟨_, _, _, _, _⟩) F' N' ?q9a ?q9b ?q9c ?q9he ?_); (case q9a => omega); (case q9b => omega); (case q9c => walk_at "mine size"); (case q9he => first | with_reducible assumption | exact rfl); intro _ _ _ _ _; (try k_sweep))
  trivial
end Mine

-- part power
namespace Mine
def PowPost (l : List Nat) (p : Int) (v : Value) (ex : List (Addr × Obj)) : Prop := ∃ D t1 t2, v = .ref D ∧ ex = [(D, { cls := .type "tuple", data := .seq [.int p t1, .int (l.length : Int) t2].toArray })]
set_option maxHeartbeats 8000000 in
theorem power_con {w : World} {mean : ExcName → Option Value} {mg mb : Str → Option Value} (l : List Nat) (i p ln : Int) (t0 ti tn : Tok)
    (hlen : l.length ≤ 1000) (hi : 0 ≤ i) (hil : i ≤ l.length) (hd : l.drop i.toNat = expoT p) (hp : -400 ≤ p) (hp' : p ≤ 400) :
    Con w mean mg mb 144 3 [.str (S l) t0, .int i ti, .int ln tn] (PowPost l p) := by
  unfold Con
  k_fill
  intro dp un gd cn cs ad ccd cl outer A₀ base h₀ L m news s Q E B F X N T hk hdp hun hret
  have hdl : (l.length : Int) = i + (expoT p).length := by
    have := congrArg List.length hd
    rw [List.length_drop] at this
    omega
  refine wpAny_call ?_
  k_dflt cell_enter
  rcases Int.lt_trichotomy p 0 with hs | hs | hs
  · have e : expoT p = [69] ++ ([45] ++ ((decD (-p)).map sgn ++ [])) := by unfold expoT; rw [if_neg (by omega), if_pos hs, if_pos hs, decT_eq]; simp
    rw [e] at hd hdl
    simp only [List.length_append, List.length_cons, List.length_nil, List.length_map] at hdl
    have f1 : (l.drop i.toNat).take (i + 1 - i).toNat = [69] := by rw [hd, show (i + 1 - i).toNat = 1 by omega]; rfl
    have hd2 := drop_drop' hi hd (j := i + 1) (by simp)
    have f2 : (l.drop (i + 1).toNat).take (i + 2 - (i + 1)).toNat = [45] := by rw [hd2, show (i + 2 - (i + 1)).toNat = 1 by omega]; rfl
    have hd3 := drop_drop' (by omega) hd2 (j := i + 2) (by simp; omega)
    have g1 := decD_lt (-p)
    have g2 := decD_ge (-p)
    have g3 : (decD (-p)).length ≤ 80 := Nat.le_trans (decD_le (by omega)) (by decide)
    have g4 := decD_val (n := -p) (by omega)
    have g5 : TermP 10 [] := trivial
    k_steps
    (refine' ret1 hret ⟨_, _, _, rfl, ?eq⟩ ?F ?N ?D ?led ?lt)
    case F => assumption
    case N => assumption
    case D => exact List.mem_cons_self ..
    case led => walk_at "mine sub"
    case lt => exact allLt_mem (And.right (by assumption))
    case eq => rw [show -(-p) = p by omega, show i + 2 + (((decD (-p)).length : Nat) : Int) = (l.length : Int) by omega]
  · subst hs
    have e : expoT 0 = [] := rfl
    rw [e] at hd hdl
    simp only [List.length_nil] at hdl
    have f1 : (l.drop i.toNat).take (i + 1 - i).toNat = [] := by rw [hd, List.take_nil]
    k_steps
    (refine' ret1 hret ⟨_, _, _, rfl, ?eq⟩ ?F ?N ?D ?led ?lt)
    case F => assumption
    case N => assumption
    case D => exact List.mem_cons_self ..
    case led => walk_at "mine sub"
    case lt => assumption
    case eq => rw [show i = (l.length : Int) by omega]
  · have e : expoT p = [69] ++ ((decD p).map sgn ++ []) := by unfold expoT; rw [if_neg (by omega), if_neg (by omega), if_neg (by omega), decT_eq]; simp
    rw [e] at hd hdl
    simp only [List.length_append, List.length_cons, List.length_nil, List.length_map] at hdl
    have f1 : (l.drop i.toNat).take (i + 1 - i).toNat = [69] := by rw [hd, show (i + 1 - i).toNat = 1 by omega]; rfl
    have hd2 := drop_drop' hi hd (j := i + 1) (by simp)
    have g1 := decD_lt p
    have g2 := decD_ge p
    obtain ⟨d, r, hdr⟩ : ∃ d r, decD p = d :: r := by
      cases h : decD p with
      | nil => rw [h] at g2; simp at g2
      | cons d r => exact ⟨d, r, rfl⟩
    have hsr := sgn_range (d := d) (by have := g1 d (by rw [hdr]; exact List.mem_cons_self ..); omega)
    have f2 : (l.drop (i + 1).toNat).take (i + 2 - (i + 1)).toNat = [sgn d] := by rw [hd2, hdr, show (i + 2 - (i + 1)).toNat = 1 by omega]; rfl
    have g3 : (decD p).length ≤ 80 := Nat.le_trans (decD_le (by omega)) (by decide)
    have g4 := decD_val (n := p) (by omega)
    have g5 : TermP 10 [] := trivial
    k_steps
    (refine' ret1 hret ⟨_, _, _, rfl, ?eq⟩ ?F ?N ?D ?led ?lt)
    case F => assumption
    case N => assumption
    case D => exact List.mem_cons_self ..
    case led => walk_at "mine sub"
    case lt => exact allLt_mem (And.right (by assumption))
    case eq => rw [show i + 1 + (((decD p).length : Nat) : Int) = (l.length : Int) by omega]
theorem linespower_1 : True := by
  k_with "call ref" =>
    (
      (with_reducible show wpAny _ _ (call (Value.ref 144) _) _ _ _)
      k_dflt (refine' Con.use (power_con _ _ _ _ _ _ _ ?q9c1 ?q9c2 ?q9c3 ?q9c4 ?q9c5 ?q9c6) ?k1 ?k2 ?k3 ?k4 ?k5 ?kK ?kd ?ku ?_)
      (case q9c4 => with_reducible assumption)
      (case q9c1 => first | with_reducible assumption | omega); (case q9c2 => first | with_reducible assumption | omega); (case q9c3 => first | with_reducible assumption | omega); (case q9c5 => first | with_reducible assumption | omega); (case q9c6 => first | with_reducible assumption | omega)
      walk_at "mine con"
      intro v9 ex9 h9 tk9 P9 lt9 F9 N9
      obtain ⟨D9, t8, t9, hv9, hex9⟩ := P9
      subst hex9 hv9
      (try simp only [List.nil_append, List.cons_append] at N9)
      (have l9 := fun p hp => lt9 p hp _ (List.mem_cons_self ..))
      clear lt9
      (try k_lt l9)
      (try k_sweep))
  k_with "mine lt" =>
    first | assumption | exact allLt_mem (by assumption) | exact allLt_mem (And.right (by assumption)) | exact allLt_mem (And.right (And.right (by assumption))) | exact allLt_mem (And.right (And.right (And.right (by assumption)))) | exact allLt_mem (And.right (And.right (And.right (And.right (by assumption))))) | exact allLt_mem (And.right (And.right (And.right (And.right (And.right (by assumption)))))) | exact allLt_mem (And.right (And.right (And.right (And.right (And.right (And.right (by assumption))))))) 
  k_with "mine lts" =>
    (repeat (first | exact List.forall_mem_nil _ | (refine List.forall_mem_cons.mpr ⟨?_, ?_⟩; (focus (walk_at "mine lt")))))
  k_with "mine ex" =>
    (repeat (first | exact List.forall_mem_nil _ | (refine List.forall_mem_cons.mpr ⟨?_, ?_⟩; (focus (k_mem)))))
  trivial
end Mine

-- part txt3
namespace Mine
theorem retN {news : List (Addr × Obj)} {s : Shared} {Q : Value → Shared → Prop} {Post : Value → List (Addr × Obj) → Prop} {h₀ h' : Heap} {L : Addr} {m : Str → Option Value} {v : Value} {tk' : Nat} {news' : List (Addr × Obj)} {ex : List (Addr × Obj)}
    (hret : ∀ v ex h' tk', Post v ex → (∀ p ∈ news, ∀ q ∈ ex, p.1 < q.1) → Fr h₀ L h' m → News h₀ L h' (ex ++ news) → Q v { s with heap := h', toks := tk' })
    (hp : Post v ex) (F : Fr h₀ L h' m) (N : News h₀ L h' news') (hex : ∀ q ∈ ex, q ∈ news') (hs : ∀ p ∈ news, p ∈ news') (lt : ∀ q ∈ ex, ∀ p ∈ news, p.1 < q.1) : Q v { s with heap := h', toks := tk' } :=
  hret v ex h' tk' hp (fun p hp q hq => lt q hq p hp) F (fun p hp => by
    rcases List.mem_append.mp hp with h | h
    · exact N p (hex p h)
    · exact N p (hs p h))
theorem term_expo (p b : Int) (h : b ≤ 10) : TermP b (expoT p) := by
  unfold expoT
  split
  · trivial
  · exact .inr (.inr ⟨rfl, h⟩)
theorem take1 {l r : List Nat} {e : Int} {c : Nat} (h : l.drop e.toNat = c :: r) : (l.drop e.toNat).take (e + 1 - e).toNat = [c] := by
  rw [h, show (e + 1 - e).toNat = 1 by omega]; rfl
theorem take0 {l : List Nat} {e f : Int} (h : l.drop e.toNat = []) : (l.drop e.toNat).take f.toNat = [] := by
  rw [h, List.take_nil]
theorem take1' {l r : List Nat} {e : Int} {c : Nat} (h : l.drop (e + 1).toNat = c :: r) : (l.drop (e + 1).toNat).take (e + 2 - (e + 1)).toNat = [c] := by
  rw [h, show (e + 2 - (e + 1)).toNat = 1 by omega]; rfl
theorem expo_head (p : Int) : (p = 0 ∧ expoT p = []) ∨ (p ≠ 0 ∧ ∃ r, expoT p = 69 :: r) := by
  unfold expoT
  by_cases h : p = 0
  · exact .inl ⟨h, if_pos h⟩
  · exact .inr ⟨h, _, if_neg h⟩
theorem expo_second {p : Int} (h : 0 < p) (hp : p ≤ 400) : ∃ d r, expoT p = 69 :: sgn d :: r ∧ d < 10 := by
  have g1 := decD_lt p
  have g2 := decD_ge p
  obtain ⟨d, r, hdr⟩ : ∃ d r, decD p = d :: r := by
    cases h : decD p with
    | nil => rw [h] at g2; simp at g2
    | cons d r => exact ⟨d, r, rfl⟩
  refine ⟨d, r.map sgn, ?_, by have := g1 d (by rw [hdr]; exact List.mem_cons_self ..); omega⟩
  unfold expoT
  rw [if_neg (by omega), if_neg (by omega), if_neg (by omega), decT_eq, hdr]; simp
theorem expo_len {p : Int} (h : -400 ≤ p) (hp : p ≤ 400) : (expoT p).length ≤ 8 := by
  unfold expoT
  by_cases h0 : p = 0
  · rw [if_pos h0]; simp
  · rw [if_neg h0]
    by_cases h1 : p < 0
    · rw [if_pos h1, if_pos h1]
      have h1 : (decD (-p)).length ≤ 6 := decD_le (by omega)
      simp only [List.length_append, List.length_cons, List.length_nil, decT_eq, List.length_map]
      omega
    · rw [if_neg h1, if_neg h1]
      have h1 : (decD p).length ≤ 6 := decD_le (by omega)
      simp only [List.length_append, List.length_cons, List.length_nil, decT_eq, List.length_map]
      omega
theorem showB_eq (b : Int) (tx : List Nat) (p : Int) : showB b tx p = (if b = 10 then tx else decT b ++ ([35] ++ (tx ++ [35]))) ++ expoT p := rfl

end Mine

-- part dec
namespace Mine
section
variable {prog : Program} {w : World} {A : Around} {E : Value → Shared → Prop} {s : Shared} {t u : Tok} {Q : Value → Shared → Prop}
theorem eq_SF {a b : List Nat} {r : Bool} {x y : PySem.Str} (hx : x = S a) (hy : y = S b) (hb : decide (a = b) = r) (h : Q (.bool r) s) : wpAny (model prog w) A (compareOp .Eq (.str x t) (.str y u)) Q E s :=
  eq_S hx hy (by rw [hb]; exact h)
theorem in_SF {c : Nat} {r : Bool} {x y : PySem.Str} (hy : y = S [c]) (hb : decide (c ∈ x.cps.toList) = r) (h : Q (.bool r) s) : wpAny (model prog w) A (compareOp .In (.str y u) (.str x t)) Q E s :=
  in_S hy (by rw [hb]; exact h)
theorem ne_SF {a b : List Nat} {r : Bool} {x y : PySem.Str} (hx : x = S a) (hy : y = S b) (hb : decide (a ≠ b) = r) (h : Q (.bool r) s) : wpAny (model prog w) A (compareOp .NotEq (.str x t) (.str y u)) Q E s :=
  ne_S hx hy (by rw [hb]; exact h)
end
theorem linesdec_1 : True := by
  k_with "compareOp Eq str str" =>
    ((with_reducible show wpAny _ _ (compareOp CmpOp.Eq (Value.str _ _) (Value.str _ _)) _ _ _); (refine' eq_SF ?q9hx ?q9hy ?q9hb ?_); (case q9hx => walk_at "mine lit"); (case q9hy => walk_at "mine lit"); (case q9hb => first | with_reducible assumption | exact decide_eq_true rfl | exact decide_eq_false (by decide)))
  k_with "compareOp NotEq str str" =>
    ((with_reducible show wpAny _ _ (compareOp CmpOp.NotEq (Value.str _ _) (Value.str _ _)) _ _ _); (refine' ne_SF ?q9hx ?q9hy ?q9hb ?_); (case q9hx => walk_at "mine lit"); (case q9hy => walk_at "mine lit"); (case q9hb => first | with_reducible assumption | exact decide_eq_false (fun h => absurd rfl h) | exact decide_eq_true (by decide)))
  k_with "compareOp In str str" =>
    ((with_reducible show wpAny _ _ (compareOp CmpOp.In (Value.str _ _) (Value.str _ _)) _ _ _); (refine' in_SF ?q9hy ?q9hb ?_); (case q9hy => walk_at "mine lit"); (case q9hb => with_reducible assumption))
  k_with "mine next" =>
    ((repeat ((fail_if_success (with_reducible show wpAny _ _ (exec _ _) _ _ _)); walk1)); (repeat ((fail_if_success (with_reducible show wpAny _ _ (execs (_ :: _) _) _ _ _)); walk1)); (try dsimp only))
  trivial
end Mine

-- part ratio2
namespace Mine
def Small (b : Int) : Prop := b < 2 ^ 4000
theorem small_one : Small 1 := by unfold Small; decide +kernel
theorem ratio_con' {w : World} {mean : ExcName → Option Value} {mg mb : Str → Option Value} (a b X Y : Int) (ta tb : Tok) (ha : 0 ≤ a) (hb : 0 < b) (hb' : Small b)
    (hX : a.fdiv (Int.gcd a b) = X) (hY : b.fdiv (Int.gcd a b) = Y) (h1 : X ≤ 10 ^ 700) (h2 : Y ≤ 10 ^ 700) (h10 : 0 ≤ X) :
    Con w mean mg mb 94 2 [.int a ta, .int b tb] (fun v ex => ∃ D t1 t2, v = .ref D ∧ ex = [(D, { cls := .type "tuple", data := .seq [.int X t1, .int Y t2].toArray })]) := by
  subst hX hY
  exact ratio_con a b ta tb ha hb hb' h1 h2 h10
section
variable {prog : Program} {w : World} {A : Around} {E : Value → Shared → Prop} {s : Shared} {t u : Tok} {Q : Value → Shared → Prop}
theorem ne_S1 {a b : Nat} {x y : PySem.Str} (hx : x = S [a]) (hy : y = S [b]) (h : Q (.bool (decide (a ≠ b))) s) : wpAny (model prog w) A (compareOp .NotEq (.str x t) (.str y u)) Q E s := by
  refine ne_S hx hy ?_
  have e : decide ([a] ≠ [b]) = decide (a ≠ b) := by rw [Bool.eq_iff_iff]; simp
  rw [e]; exact h
end
theorem linesratio2_1 : True := by
  k_with "call ref" =>
    (
      (with_reducible show wpAny _ _ (call (Value.ref 94) _) _ _ _)
      k_dflt (refine' Con.use (ratio_con' _ _ _ _ _ _ ?q9c1 ?q9c2 ?q9c3 ?q9cX ?q9cY ?q9c4 ?q9c5 ?q9c6) ?k1 ?k2 ?k3 ?k4 ?k5 ?kK ?kd ?ku ?_)
      (case q9cX => with_reducible assumption); (case q9cY => with_reducible assumption)
      (case q9c1 => with_reducible assumption); (case q9c2 => first | with_reducible assumption | decide); (case q9c3 => first | with_reducible assumption | exact small_one); (case q9c4 => with_reducible assumption); (case q9c5 => with_reducible assumption); (case q9c6 => with_reducible assumption)
      walk_at "mine con"
      intro v9 ex9 h9 tk9 P9 lt9 F9 N9
      obtain ⟨D9, t8, t9, hv9, hex9⟩ := P9
      subst hex9 hv9
      (try simp only [List.nil_append, List.cons_append] at N9)
      (have l9 := fun p hp => lt9 p hp _ (List.mem_cons_self ..))
      clear lt9
      (try k_lt l9)
      (try k_sweep))
  k_with "compareOp NotEq str str" =>
    ((with_reducible show wpAny _ _ (compareOp CmpOp.NotEq (Value.str _ _) (Value.str _ _)) _ _ _); (refine' ne_S1 ?q9hx ?q9hy ?_); (case q9hx => walk_at "mine lit"); (case q9hy => walk_at "mine lit"))
  trivial
end Mine

-- part ar1
namespace Mine
-- plain arithmetic of the whole numbers
theorem digs_shift {b : Nat} (hb : 2 ≤ b) {n : Nat} (hn : 0 < n) : ∀ k : Nat, digs b (n * b ^ k) 1 = digs b n 1 ++ List.replicate k 0 := by
  have key : ∀ m : Nat, 0 < m → digs b m 0 = digs b m 1 := by
    intro m hm
    rw [digs_step hb (.inl hm), digs_step hb (.inl hm)]
  intro k
  induction k with
  | zero => simp
  | succ k ih =>
    have hp : 0 < n * b ^ k := Nat.mul_pos hn (Nat.pow_pos (by omega))
    have e : n * b ^ (k + 1) = n * b ^ k * b := by rw [Nat.pow_succ, Nat.mul_assoc]
    rw [digs_step hb (.inl (by rw [e]; exact Nat.mul_pos hp (by omega))), e, Nat.mul_div_cancel _ (by omega : 0 < b), Nat.mul_mod_left, Nat.sub_self, key _ hp, ih, List.append_assoc, List.replicate_succ']
theorem val_zeros (b k : Nat) : val b (List.replicate k 0) = 0 := by
  induction k with
  | zero => rfl
  | succ k ih => rw [List.replicate_succ', val_snoc, ih]; simp
theorem sgn_zero {d : Nat} (h : sgn d = 48) : d = 0 := by unfold sgn at h; split at h <;> omega
theorem map_zeros : ∀ {ds : List Nat} {k : Nat}, ds.map sgn = List.replicate k 48 → ds = List.replicate k 0
  | [], 0, _ => rfl
  | [], k + 1, h => by rw [List.replicate_succ] at h; cases h
  | d :: ds, 0, h => by cases h
  | d :: ds, k + 1, h => by
    rw [List.replicate_succ, List.map_cons] at h
    injection h with h1 h2
    rw [sgn_zero h1, map_zeros h2, List.replicate_succ]
/-- what the law builds: a number under b to the thirty-second (or so), times a power -/
theorem accW_own {b n : Int} {m k j : Nat} (hb : 2 ≤ b) (hm : 0 < m) (hn : n = (m : Int) * b ^ k) (hj : m < b.toNat ^ j) (h1 : 1 ≤ j) (h80 : j ≤ 80) (hk : j + k ≤ 480) : accW b n := by
  have hbn : ((b.toNat : Nat) : Int) = b := by omega
  have hnn : n.toNat = m * b.toNat ^ k := by
    have : n = ((m * b.toNat ^ k : Nat) : Int) := by rw [hn, Int.natCast_mul, Int.natCast_pow, hbn]
    omega
  have e : figT n b 1 = (digs b.toNat m 1).map sgn ++ List.replicate k 48 := by
    unfold figT
    show (digs b.toNat n.toNat 1).map sgn = _
    rw [hnn, digs_shift (by omega) hm, List.map_append, List.map_replicate]
    rfl
  have hl := digs_len_le (b := b.toNat) (by omega) m 1 j hj h1
  refine ⟨?_, ?_⟩
  · rw [e, List.length_append, List.length_map, List.length_replicate]; omega
  · rw [e, List.length_append, List.length_map, List.length_replicate, List.drop_append, List.drop_of_length_le (by rw [List.length_map]; omega), List.nil_append, List.drop_replicate, List.length_map]
    congr 1; omega
theorem len_bound {b n : Int} (hb : 2 ≤ b) (hn : n < 2 ^ 10000) : (figT n b 1).length ≤ 10000 := figT_len_le hb hn (by decide)
/-- what a literal of show_whole says -/
theorem whole_says {b n : Int} (hb : 2 ≤ b) (hn : 0 ≤ n) (h : accW b n) : ∃ ds : List Nat, (figT n b 1).take 80 = ds.map sgn ∧ (∀ d ∈ ds, (d : Int) < b) ∧ 1 ≤ ds.length ∧ ds.length ≤ 80 ∧ ((val b.toNat ds : Nat) : Int) * b ^ (powW b n).toNat = n := by
  have hbn : ((b.toNat : Nat) : Int) = b := by omega
  have hlt := digs_lt (b := b.toNat) (by omega) n.toNat 1
  have hge := digs_len_ge (b := b.toNat) (by omega) n.toNat 1
  have hv := val_digs (b := b.toNat) (by omega) n.toNat 1
  have h2 := h.2
  have hl : (figT n b 1).length = (digs b.toNat n.toNat 1).length := by unfold figT; rw [List.length_map]; rfl
  refine ⟨(digs b.toNat n.toNat 1).take 80, ?_, ?_, ?_, ?_, ?_⟩
  · unfold figT; rw [List.map_take]; rfl
  · intro d hd; have := hlt d (List.mem_of_mem_take hd); omega
  · rw [List.length_take]; omega
  · rw [List.length_take]; omega
  · have hz : (digs b.toNat n.toNat 1).drop 80 = List.replicate ((digs b.toNat n.toNat 1).length - 80) 0 := by
      apply map_zeros
      rw [hl] at h2
      rw [List.map_drop]
      exact h2
    rw [← List.take_append_drop 80 (digs b.toNat n.toNat 1), val_append, hz, val_zeros, Nat.add_zero, List.length_replicate] at hv
    rw [pow_nat, hl]
    have : ((val b.toNat ((digs b.toNat n.toNat 1).take 80) * b.toNat ^ ((digs b.toNat n.toNat 1).length - 80) : Nat) : Int) = n := by rw [hv]; omega
    rw [Int.natCast_mul, Int.natCast_pow, hbn] at this
    exact this
theorem ten_first {n : Int} (h : n < 10 ^ 80) : accW 10 n ∧ (figT n 10 1).length ≤ 80 := by
  have hl : (figT n 10 1).length ≤ 80 := by
    unfold figT
    rw [List.length_map]
    exact digs_len_le (by decide) _ _ 80 (by
      have h3 : ((10 ^ 80 : Nat) : Int) = 10 ^ 80 := by simp
      have h4 : 0 < 10 ^ 80 := Nat.pow_pos (by decide)
      show n.toNat < 10 ^ 80
      omega) (by decide)
  refine ⟨⟨by omega, ?_⟩, hl⟩
  rw [List.drop_of_length_le hl, show (figT n 10 1).length - 80 = 0 by omega]
  rfl

end Mine

-- part ar2
namespace Mine
-- plain arithmetic of the fractions
/-- what the law builds, by one shape -/
def Own (b top bottom : Int) (N u v : Nat) : Prop := ∃ C : Int, 0 < C ∧ top * C = (N : Int) * b ^ u ∧ bottom * C = b ^ v ∧ (u = 0 ∨ v = 0) ∧ u ≤ 129 ∧ v ≤ 170
theorem own_core {b n' N u v p q : Nat} (hb : 2 ≤ b) (hN0 : 0 < N) (hN : N < b ^ 122) (huv : u = 0 ∨ v = 0) (hu : u ≤ 129) (hpv : p ≤ v) (hq : 0 < p → q = 0)
    (h : n' * b ^ (q + v) = N * b ^ (u + p)) (hs : p = 0 → n' % b ≠ 0) : n' ≤ N ∧ q ≤ 251 := by
  have hbp : ∀ k, 0 < b ^ k := fun k => Nat.pow_pos (by omega)
  by_cases hfe : u + p ≤ q + v
  · have e : q + v = (q + v - (u + p)) + (u + p) := by omega
    rw [e, Nat.pow_add, ← Nat.mul_assoc] at h
    have h1 := Nat.eq_of_mul_eq_mul_right (hbp _) h
    have h2 : n' ≤ N := by
      rw [← h1]; exact Nat.le_mul_of_pos_right _ (hbp _)
    have hn0 : 0 < n' := by
      rcases Nat.eq_zero_or_pos n' with h0 | h0
      · subst h0; rw [Nat.zero_mul] at h1; omega
      · exact h0
    have h3 : b ^ (q + v - (u + p)) ≤ N := by
      rw [← h1]; exact Nat.le_mul_of_pos_left _ hn0
    have h4 : q + v - (u + p) < 122 := (Nat.pow_lt_pow_iff_right (by omega)).mp (Nat.lt_of_le_of_lt h3 hN)
    refine ⟨h2, ?_⟩
    rcases Nat.eq_zero_or_pos p with h0 | h0
    · omega
    · have := hq h0; omega
  · exfalso
    have hp0 : p = 0 := by
      rcases Nat.eq_zero_or_pos p with h0 | h0
      · exact h0
      · have := hq h0; omega
    have e : u + p = (u + p - (q + v) - 1 + 1) + (q + v) := by omega
    rw [e, Nat.pow_add b _ (q + v), ← Nat.mul_assoc, Nat.pow_succ, ← Nat.mul_assoc] at h
    have h1 := Nat.eq_of_mul_eq_mul_right (hbp (q + v)) h
    exact hs hp0 (by rw [h1]; exact Nat.mul_mod_left _ _)
theorem fmod_nat {a b : Int} (ha : 0 ≤ a) (hb : 0 < b) : (a.fmod b = 0) ↔ a.toNat % b.toNat = 0 := by
  rw [Int.fmod_eq_emod_of_nonneg _ (by omega)]
  obtain ⟨m, rfl⟩ := Int.eq_ofNat_of_zero_le ha
  obtain ⟨k, rfl⟩ := Int.eq_ofNat_of_zero_le (Int.le_of_lt hb)
  show ((m : Int) % (k : Int) = 0) ↔ m % k = 0
  omega
theorem minp_div {b bottom p top : Int} (hb : 2 ≤ b) (hbo : 0 < bottom) (h : MinP b bottom p) : (top * b ^ p.toNat).fdiv bottom * bottom = top * b ^ p.toNat := by
  have h1 : bottom ∣ b ^ p.toNat := by
    have := h.2.2.1
    rw [Int.fmod_eq_emod_of_nonneg _ (by omega)] at this
    exact Int.dvd_of_emod_eq_zero this
  rw [Int.fdiv_eq_ediv_of_nonneg _ (by omega)]
  exact Int.ediv_mul_cancel (Int.dvd_trans h1 (Int.dvd_mul_left ..))
theorem scaledT_ne {n p b : Int} (h : ¬ (((figT n b 1).length : Int) - behindI (figT n b 1).length p > 80 ∨ behindI (figT n b 1).length p - p < -400 ∨ behindI (figT n b 1).length p - p > 400)) : scaledT n p b ≠ [] := by
  unfold scaledT
  rw [if_neg h]
  unfold showB
  split <;> simp
theorem behind_spec (z p : Int) : (behindI z p = 80 ∧ (80 ≤ p ∨ 80 ≤ z - 80)) ∨ (behindI z p = p ∧ z - 80 ≤ p ∧ p ≤ 80) ∨ (behindI z p = z - 80 ∧ p ≤ z - 80 ∧ z - 80 ≤ 80) := by
  unfold behindI
  have h1 := maxI_spec p (z - 80)
  have h2 := minI_spec 80 (maxI p (z - 80))
  omega
theorem good_own {b top bottom : Int} {N u v : Nat} (hb : 2 ≤ b) (ht : 0 < top) (hbo : 0 < bottom) (hN0 : 0 < N) (hN : N < b.toNat ^ 122) (h : Own b top bottom N u v) : GoodR top bottom b := by
  obtain ⟨C, hC, h1, h2, huv, hu, hv⟩ := h
  obtain ⟨c, rfl⟩ := Int.eq_ofNat_of_zero_le (by omega : 0 ≤ b)
  rw [Int.toNat_natCast] at hN
  have hbp : ∀ k, (0 : Int) < (c : Int) ^ k := fun k => Int.pow_pos (by omega)
  have hdv : bottom ∣ (c : Int) ^ v := ⟨C, h2.symm⟩
  refine ⟨?_, ?_⟩
  · rw [Int.fmod_eq_emod_of_nonneg _ (by omega)]
    refine Int.emod_eq_zero_of_dvd (Int.dvd_trans hdv ?_)
    exact ⟨(c : Int) ^ (480 - v), by rw [← Int.pow_add]; congr 1; omega⟩
  · intro p n' p' hp hs
    have hd := minp_div (top := top) hb hbo hp
    obtain ⟨hp0, hp480, hp1, hp2⟩ := hp
    obtain ⟨hn0, hn1, hs1, hs2, hs3⟩ := hs
    rw [hn1] at hd
    have hpv : p.toNat ≤ v := by
      refine Nat.le_of_not_lt (fun hlt => hp2 v (by omega) ?_)
      rw [Int.fmod_eq_emod_of_nonneg _ (by omega)]
      exact Int.emod_eq_zero_of_dvd hdv
    obtain ⟨m, rfl⟩ := Int.eq_ofNat_of_zero_le hn0
    have hm0 : 0 < m := by
      rcases Nat.eq_zero_or_pos m with h0 | h0
      · subst h0
        have := Int.mul_pos ht (hbp p.toNat)
        rw [← hd] at this
        simp at this
      · exact h0
    have hk : m * c ^ ((p - p').toNat + v) = N * c ^ (u + p.toNat) := by
      have e : (m : Int) * (c : Int) ^ ((p - p').toNat + v) = (N : Int) * (c : Int) ^ (u + p.toNat) := by
        rw [Int.pow_add, Int.pow_add, ← h2, ← Int.mul_assoc (N : Int), ← h1, ← Int.mul_assoc, ← Int.mul_assoc, hd, Int.mul_right_comm]
      exact_mod_cast e
    have hcore := own_core (b := c) (by omega) hN0 hN huv hu hpv (q := (p - p').toNat) (fun h => by have := hs2 (by omega); omega) hk (fun h => by
      have h3 := hs3 (by omega) (by omega)
      intro h4
      exact h3 ((fmod_nat (by omega) (by omega)).mpr (by simpa using h4)))
    have hsz : (figT (m : Int) (c : Int) 1).length ≤ 122 := by
      unfold figT
      rw [List.length_map]
      exact digs_len_le (by omega) _ _ 122 (by rw [Int.toNat_natCast, Int.toNat_natCast]; exact Nat.lt_of_le_of_lt hcore.1 hN) (by decide)
    apply scaledT_ne
    have hbs := behind_spec ((figT (m : Int) (c : Int) 1).length) p'
    omega

end Mine

-- part ar3
namespace Mine
/-- what a literal of show_real says -/
theorem real_says {b top bottom p n' p' : Int} (hb : 2 ≤ b) (ht : 0 < top) (hbo : 0 < bottom) (hp : MinP b bottom p) (hs : Strip b ((top * b ^ p.toNat).fdiv bottom) p n' p') (hx : scaledT n' p' b ≠ []) :
    ∃ (ds fs : List Nat) (q : Int), scaledT n' p' b = showB b (ds.map sgn ++ 46 :: fs.map sgn) q ∧ (∀ d ∈ ds, (d : Int) < b) ∧ (∀ d ∈ fs, (d : Int) < b) ∧ 1 ≤ ds.length ∧ ds.length ≤ 80 ∧ 1 ≤ fs.length ∧ fs.length ≤ 80 ∧ -400 ≤ q ∧ q ≤ 400 ∧
      (0 ≤ q - (fs.length : Int) → ((val b.toNat (ds ++ fs) : Nat) : Int) * b ^ (q - (fs.length : Int)).toNat * bottom = top) ∧ (¬ 0 ≤ q - (fs.length : Int) → ((val b.toNat (ds ++ fs) : Nat) : Int) * bottom = top * b ^ (-(q - (fs.length : Int))).toNat) := by
  have hd := minp_div (top := top) hb hbo hp
  obtain ⟨hp0, hp480, hp1, hp2⟩ := hp
  obtain ⟨hn0, hn1, hs1, hs2, hs3⟩ := hs
  rw [hn1] at hd
  have hbn : ((b.toNat : Nat) : Int) = b := by omega
  have hbp : ∀ k, (0 : Int) < b ^ k := fun k => Int.pow_pos (by omega)
  have hb0 : ∀ k, b ^ k ≠ (0 : Int) := fun k => by have := hbp k; omega
  obtain ⟨z, hz⟩ : ∃ z : Nat, (figT n' b 1).length = z := ⟨_, rfl⟩
  have hbs := behind_spec (z : Int) p'
  have hmx := maxI_spec 0 (1 - behindI (z : Int) p')
  have hz1 : 1 ≤ z := by have := figT_len_ge (b := b) (l := 1) n' hb; omega
  have hnz : n'.toNat < b.toNat ^ z := by
    have h1 := val_lt (b := b.toNat) (digs b.toNat n'.toNat 1) (digs_lt (by omega) _ _)
    rw [val_digs (by omega)] at h1
    have h2 : (digs b.toNat n'.toNat 1).length = z := by rw [← hz]; unfold figT; rw [List.length_map]; rfl
    rwa [h2] at h1
  unfold scaledT at hx ⊢
  rw [hz] at hx ⊢
  obtain ⟨bh, hbh⟩ : ∃ bh, behindI (z : Int) p' = bh := ⟨_, rfl⟩
  rw [hbh] at hx hbs hmx ⊢
  obtain ⟨mo, hmo⟩ : ∃ mo, maxI 0 (1 - bh) = mo := ⟨_, rfl⟩
  rw [hmo] at hx hmx ⊢
  by_cases hc : (z : Int) - bh > 80 ∨ bh - p' < -400 ∨ bh - p' > 400
  · rw [if_pos hc] at hx; exact absurd rfl hx
  rw [if_neg hc]
  obtain ⟨T, hT⟩ : ∃ T, digs b.toNat (n' * b ^ mo.toNat).toNat (bh + mo + 1).toNat = T := ⟨_, rfl⟩
  have hTf : figT (n' * b ^ mo.toNat) b (bh + mo + 1) = T.map sgn := by unfold figT; rw [hT]
  have hTl1 := digs_len_ge (b := b.toNat) (by omega) (n' * b ^ mo.toNat).toNat (bh + mo + 1).toNat
  have hTv := val_digs (b := b.toNat) (by omega) (n' * b ^ mo.toNat).toNat (bh + mo + 1).toNat
  have hTd := digs_lt (b := b.toNat) (by omega) (n' * b ^ mo.toNat).toNat (bh + mo + 1).toNat
  have hnn : (n' * b ^ mo.toNat).toNat = n'.toNat * b.toNat ^ mo.toNat := by
    have : n' * b ^ mo.toNat = ((n'.toNat * b.toNat ^ mo.toNat : Nat) : Int) := by
      rw [Int.natCast_mul, Int.natCast_pow, hbn, show ((n'.toNat : Nat) : Int) = n' by omega]
    omega
  have hTl2 : T.length ≤ max (z + mo.toNat) (bh + mo + 1).toNat := by
    rw [← hT]
    refine digs_len_le (by omega) _ _ _ ?_ (Nat.le_max_right ..)
    rw [hnn]
    have h1 : n'.toNat * b.toNat ^ mo.toNat < b.toNat ^ (z + mo.toNat) := by
      rw [Nat.pow_add]
      exact Nat.mul_lt_mul_of_pos_right hnz (Nat.pow_pos (by omega))
    exact Nat.lt_of_lt_of_le h1 (Nat.pow_le_pow_right (by omega) (Nat.le_max_left ..))
  rw [hT] at hTl1 hTv hTd
  rw [hTf, List.length_map]
  obtain ⟨k, hk⟩ : ∃ k, ((T.length : Int) - bh - mo).toNat = k := ⟨_, rfl⟩
  rw [hk]
  have hk1 : 1 ≤ k := by omega
  have hk2 : k ≤ 80 := by omega
  have hkT : k ≤ T.length := by omega
  have hf : ((T.drop k).length : Int) = bh + mo := by rw [List.length_drop]; omega
  have hval : ((val b.toNat (T.take k ++ T.drop k) : Nat) : Int) = n' * b ^ mo.toNat := by
    rw [List.take_append_drop, hTv]
    have : 0 ≤ n' * b ^ mo.toNat := Int.mul_nonneg hn0 (Int.le_of_lt (hbp _))
    omega
  refine ⟨T.take k, T.drop k, bh - p', ?_, ?_, ?_, ?_, ?_, ?_, ?_, ?_, ?_, ?_, ?_⟩
  · rw [List.map_take, List.map_drop]; simp
  · intro d h; have := hTd d (List.mem_of_mem_take h); omega
  · intro d h; have := hTd d (List.mem_of_mem_drop h); omega
  · rw [List.length_take]; omega
  · rw [List.length_take]; omega
  · omega
  · omega
  · omega
  · omega
  · intro h
    rw [hval, hf]
    rw [hf] at h
    apply Int.eq_of_mul_eq_mul_right (hb0 p.toNat)
    rw [← hd, Int.mul_assoc n', ← Int.pow_add, show mo.toNat + (bh - p' - (bh + mo)).toNat = (-p').toNat by omega, Int.mul_right_comm, Int.mul_assoc n', ← Int.pow_add, show (-p').toNat + p.toNat = (p - p').toNat by omega]
  · intro h
    rw [hval, hf]
    rw [hf] at h
    apply Int.eq_of_mul_eq_mul_right (hb0 (p - p').toNat)
    have e1 : n' * b ^ mo.toNat * bottom * b ^ (p - p').toNat = (n' * b ^ (p - p').toNat * bottom) * b ^ mo.toNat := by
      rw [Int.mul_right_comm n' (b ^ (p - p').toNat) bottom, Int.mul_right_comm n' (b ^ mo.toNat) bottom, Int.mul_right_comm]
    rw [e1, hd, Int.mul_assoc, Int.mul_assoc, ← Int.pow_add, ← Int.pow_add]
    congr 2; omega
theorem lowest {U E top bottom : Int} (hE : 0 < E) (ht : 0 ≤ top) (hbo : 0 < bottom) (hg : Int.gcd top bottom = 1) (h : U * bottom = top * E) : U.fdiv (Int.gcd U E) = top ∧ E.fdiv (Int.gcd U E) = bottom := by
  have h1 : bottom ∣ E := by
    have h2 : bottom.natAbs ∣ top.natAbs * E.natAbs := ⟨U.natAbs, by rw [← Int.natAbs_mul, ← h, Int.natAbs_mul, Nat.mul_comm]⟩
    have h3 : Nat.Coprime bottom.natAbs top.natAbs := by rw [Nat.coprime_comm]; exact hg
    exact Int.natAbs_dvd_natAbs.mp (h3.dvd_of_dvd_mul_left h2)
  obtain ⟨g, rfl⟩ := h1
  have hg0 : 0 < g := by
    rcases Int.lt_or_le 0 g with h | h
    · exact h
    · have := Int.mul_nonpos_of_nonneg_of_nonpos (Int.le_of_lt hbo) h; omega
  have hU : U = top * g := Int.eq_of_mul_eq_mul_right (by omega : bottom ≠ 0) (by rw [h, Int.mul_comm bottom g, Int.mul_assoc])
  subst hU
  have hgg : ((Int.gcd (top * g) (bottom * g) : Nat) : Int) = g := by
    rw [Int.gcd_mul_right, hg, Nat.one_mul]; omega
  rw [hgg, Int.mul_fdiv_cancel _ (by omega), Int.mul_fdiv_cancel _ (by omega)]
  exact ⟨rfl, rfl⟩
theorem lowest_one {U E top bottom : Int} (hbo : 0 < bottom) (hg : Int.gcd top bottom = 1) (h : U * E * bottom = top) : (U * E).fdiv (Int.gcd (U * E) 1) = top ∧ Int.fdiv 1 (Int.gcd (U * E) 1) = bottom := by
  have h1 : bottom = 1 := by
    have h2 : bottom ∣ top := ⟨U * E, by rw [← h, Int.mul_comm]⟩
    have h3 : Int.gcd top bottom = bottom.natAbs := Int.gcd_eq_natAbs_right h2
    omega
  subst h1
  rw [Int.mul_one] at h
  rw [h, Int.gcd_one]
  simp

end Mine

-- part num0
namespace Mine
def IntTok (V : Int) (n : Nat) (ln : Int) (v : Value) (ex : List (Addr × Obj)) : Prop :=
  ∃ D1 D2 t1 t2 t3 t4, v = .ref D2 ∧ ex = [(D2, { cls := .type "tuple", data := .seq [.ref D1, .int (n : Int) t4].toArray }), (D1, { cls := .type "tuple", data := .seq [.str (Str.ofString "int") t1, .int V t2, .int ln t3].toArray })] ∧ D1 < D2
def RealTok (X Y : Int) (n : Nat) (ln : Int) (v : Value) (ex : List (Addr × Obj)) : Prop :=
  ∃ D1 D2 D3 t1 t2 t3 t4 t5, v = .ref D3 ∧ ex = [(D3, { cls := .type "tuple", data := .seq [.ref D2, .int (n : Int) t5].toArray }), (D2, { cls := .type "tuple", data := .seq [.str (Str.ofString "real") t1, .ref D1, .int ln t2].toArray }), (D1, { cls := .type "tuple", data := .seq [.int X t3, .int Y t4].toArray })] ∧ D2 < D3 ∧ D1 < D2
theorem drop_at {l a r : List Nat} {e : Int} (hl : l = a ++ r) (he : e = a.length) : l.drop e.toNat = r := by
  rw [hl, he, show ((a.length : Nat) : Int).toNat = a.length by omega, List.drop_left]
theorem val_small {b : Int} {ds : List Nat} (hb : 2 ≤ b) (hb' : b ≤ 16) (hds : ∀ d ∈ ds, (d : Int) < b) {k : Nat} (hd : ds.length ≤ k) : 0 ≤ ((val b.toNat ds : Nat) : Int) ∧ ((val b.toNat ds : Nat) : Int) < 2 ^ (4 * k + 1) := by
  refine ⟨by omega, ?_⟩
  have h1 := val_lt (b := b.toNat) ds (fun d hd => by have := hds d hd; omega)
  have h2 := (pow_le_two hb hb' hd).2
  have h3 : ((b.toNat ^ ds.length : Nat) : Int) = b ^ ds.length := by
    rw [Int.natCast_pow, show ((b.toNat : Nat) : Int) = b by omega]
  omega
def tailT (r : Bool) (fs : List Nat) : List Nat := if r then 46 :: fs.map sgn else []
def preT (b : Int) : List Nat := if b = 10 then [] else decT b ++ [35]
def endT (b p : Int) : List Nat := (if b = 10 then [] else [35]) ++ expoT p
theorem showB_parts (b p : Int) (x y : List Nat) : showB b (x ++ y) p = preT b ++ (x ++ (y ++ endT b p)) := by
  rw [showB_eq]; unfold preT endT; split <;> simp
theorem term_end (b p : Int) : TermP b (endT b p) := by
  unfold endT
  split
  · subst b; exact term_expo p 10 (by decide)
  · exact .inl rfl
theorem term_tail (b p : Int) (r : Bool) (fs : List Nat) : TermP b (tailT r fs ++ endT b p) := by
  cases r
  · exact term_end b p
  · exact .inr (.inl rfl)
theorem head_end {b p : Int} {r : Bool} {fs : List Nat} (h10 : b = 10) : (tailT r fs ++ endT b p).take 1 ≠ [35] := by
  unfold endT
  rw [if_pos h10]
  cases r
  · rcases expo_head p with ⟨_, hx⟩ | ⟨_, q, hx⟩ <;> (show (([] : List Nat) ++ ([] ++ expoT p)).take 1 ≠ [35]; rw [hx]; simp)
  · show (46 :: _ : List Nat).take 1 ≠ [35]
    simp
theorem head_dot {b p : Int} : (endT b p).take 1 ≠ [46] := by
  unfold endT
  split
  · rcases expo_head p with ⟨_, hx⟩ | ⟨_, q, hx⟩ <;> (rw [hx]; simp)
  · simp
theorem head_minus {p : Int} (h : 0 ≤ p) (hp : p ≤ 400) : ((expoT p).drop 1).take 1 ≠ [45] := by
  by_cases h0 : p = 0
  · subst h0; simp [expoT]
  · obtain ⟨d, q, hx, hd⟩ := expo_second (p := p) (by omega) hp
    rw [hx]
    have := sgn_range (d := d) (by omega)
    simp; omega
theorem take_one {l R : List Nat} {e : Int} (h : l.drop e.toNat = R) : (l.drop e.toNat).take (e + 1 - e).toNat = R.take 1 := by
  rw [h, show (e + 1 - e).toNat = 1 by omega]
theorem take_two {l R : List Nat} {e : Int} (h0 : 0 ≤ e) (h : l.drop e.toNat = R) : (l.drop (e + 1).toNat).take (e + 2 - (e + 1)).toNat = (R.drop 1).take 1 := by
  rw [← h, List.drop_drop, show (e + 2 - (e + 1)).toNat = 1 by omega, show (e + 1).toNat = e.toNat + 1 by omega]
def NumTok (r : Bool) (U b p X Y : Int) (n : Nat) (ln : Int) (v : Value) (ex : List (Addr × Obj)) : Prop := match r with
  | true => RealTok X Y n ln v ex
  | false => IntTok (U * b ^ p.toNat) n ln v ex

end Mine

-- part numt
namespace Mine
set_option maxHeartbeats 20000000 in
theorem numtok_con {w : World} {mean : ExcName → Option Value} {mg mb : Str → Option Value} (l ds fs : List Nat) (r : Bool) (b p ln U X Y : Int) (t0 ti tn : Tok)
    (hb : 2 ≤ b) (hb' : b ≤ 16) (hl : l = showB b (ds.map sgn ++ tailT r fs) p) (hds : ∀ d ∈ ds, (d : Int) < b) (hd1 : 1 ≤ ds.length) (hd80 : ds.length ≤ 80)
    (hfs : ∀ d ∈ fs, (d : Int) < b) (hf80 : fs.length ≤ 80) (hr : (r = true ∧ 1 ≤ fs.length) ∨ (r = false ∧ fs = [] ∧ 0 ≤ p)) (hp : -400 ≤ p) (hp' : p ≤ 400) (hU : ((val b.toNat (ds ++ fs) : Nat) : Int) = U)
    (hX1 : r = true → p < (fs.length : Int) → U.fdiv (Int.gcd U (b ^ ((fs.length : Int) - p).toNat)) = X ∧ Int.fdiv (b ^ ((fs.length : Int) - p).toNat) (Int.gcd U (b ^ ((fs.length : Int) - p).toNat)) = Y)
    (hX2 : r = true → ¬ p < (fs.length : Int) → (U * b ^ (p - (fs.length : Int)).toNat).fdiv (Int.gcd (U * b ^ (p - (fs.length : Int)).toNat) 1) = X ∧ Int.fdiv 1 (Int.gcd (U * b ^ (p - (fs.length : Int)).toNat) 1) = Y)
    (h1 : X ≤ 10 ^ 700) (h2 : Y ≤ 10 ^ 700) (h10 : 0 ≤ X) :
    Con w mean mg mb 151 4 [.str (S l) t0, .int 0 ti, .int ln tn] (NumTok r U b p X Y l.length ln) := by
  unfold Con
  k_fill
  intro dp un gd cn cs ad ccd cl outer A₀ base h₀ L m news s Q E B F X0 N T hk hdp hun hret
  rw [showB_parts] at hl
  have hxl := expo_len (p := p) hp hp'
  obtain ⟨o0, ho0⟩ : ∃ o0 : Int, ((preT b).length : Int) = o0 := ⟨_, rfl⟩
  have hA : l.drop o0.toNat = ds.map sgn ++ (tailT r fs ++ endT b p) := drop_at hl ho0.symm
  obtain ⟨e2, he2⟩ : ∃ e2 : Int, o0 + (ds.length : Int) = e2 := ⟨_, rfl⟩
  have hB : l.drop e2.toNat = tailT r fs ++ endT b p := drop_drop' (by omega) hA (by rw [List.length_map]; omega)
  obtain ⟨e3, he3⟩ : ∃ e3 : Int, e2 + ((tailT r fs).length : Int) = e3 := ⟨_, rfl⟩
  have hC : l.drop e3.toNat = endT b p := drop_drop' (by omega) hB (by omega)
  obtain ⟨e4, he4⟩ : ∃ e4 : Int, e3 + (((if b = 10 then [] else [35] : List Nat).length : Nat) : Int) = e4 := ⟨_, rfl⟩
  have hD : l.drop e4.toNat = expoT p := drop_drop' (by omega) hC (by omega)
  have hpre : (preT b).length ≤ 7 := by
    have := decD_le (n := b) (by omega)
    unfold preT
    split
    · simp
    · rw [List.length_append, decT_eq, List.length_map]; simp only [List.length_cons, List.length_nil]; omega
  have htl : (tailT r fs).length ≤ 81 := by cases r <;> simp [tailT]; omega
  have hel : (if b = 10 then [] else [35] : List Nat).length ≤ 1 := by split <;> simp
  have hll : (l.length : Int) = e4 + (expoT p).length := by
    rw [hl]; unfold endT
    simp only [List.length_append, List.length_map]; omega
  have hlen : l.length ≤ 1000 := by omega
  have hdl : l.drop ((l.length : Int)).toNat = [] := by simp
  have hf9 := take0 (f := (l.length : Int) + 1 - (l.length : Int)) hdl
  have hT1 := term_tail b p r fs
  have hT2 := term_end b p
  obtain ⟨V1, hV1⟩ : ∃ V1 : Int, ((val b.toNat ds : Nat) : Int) = V1 := ⟨_, rfl⟩
  obtain ⟨V2, hV2⟩ : ∃ V2 : Int, ((val b.toNat fs : Nat) : Int) = V2 := ⟨_, rfl⟩
  have hUV : V1 * b ^ (Int.toNat (fs.length : Int)) + V2 = U := by
    rw [← hU, ← hV1, ← hV2, val_append, show (Int.toNat (fs.length : Int)) = fs.length by omega]
    push_cast
    rw [show ((b.toNat : Nat) : Int) = b by omega]
  have hb1 := val_small hb hb' hds hd80
  rw [hV1] at hb1
  have hq1 := pow_le_two hb hb' (show (Int.toNat (fs.length : Int)) ≤ 80 by omega)
  have hm1 : IntMulOk V1 (b ^ (Int.toNat (fs.length : Int))) := IntMulOk.of_bits (Nat.le_trans (bits_lt hb1.1 hb1.2) (by decide)) (Nat.le_trans (bits_lt hq1.1 hq1.2) (by decide))
  have hb2 := val_small hb hb' (ds := ds ++ fs) (k := 160) (fun d hd => (List.mem_append.mp hd).elim (hds d) (hfs d)) (by rw [List.length_append]; omega)
  rw [hU] at hb2
  have hU0 := hb2.1
  have hmk : ∀ k : Nat, k ≤ 400 → IntMulOk U (b ^ k) := fun k hk => by
    have hq := pow_le_two hb hb' hk
    exact IntMulOk.of_bits (Nat.le_trans (bits_lt hb2.1 hb2.2) (by decide)) (Nat.le_trans (bits_lt hq.1 hq.2) (by decide))
  obtain ⟨bb, D0, R0, v0, e0, x1, hA0, hT0, hD0, hn0, hn0', hv0, he0, hx1, f1, hbb⟩ : ∃ (bb : Bool) (D0 R0 : List Nat) (v0 e0 : Int) (x1 : List Nat), l.drop (Int.toNat 0) = D0.map sgn ++ R0 ∧ TermP 10 R0 ∧ (∀ d ∈ D0, (d : Int) < 10) ∧ 1 ≤ D0.length ∧ D0.length ≤ 80 ∧ ((val (Int.toNat 10) D0 : Nat) : Int) = v0 ∧ 0 + (D0.length : Int) = e0 ∧ (l.drop e0.toNat).take (e0 + 1 - e0).toNat = x1 ∧ decide (x1 = [35]) = bb ∧ ((b = 10 ∧ bb = false ∧ v0 = V1 ∧ e0 = e2) ∨ (b ≠ 10 ∧ bb = true ∧ v0 = b ∧ e0 + 1 = o0)) := by
    by_cases h : b = 10
    · subst h
      obtain rfl : o0 = 0 := ho0.symm
      exact ⟨false, ds, _, V1, e2, _, hA, hT1, hds, hd1, hd80, hV1, he2, rfl, decide_eq_false (by rw [take_one hB]; exact head_end rfl), .inl ⟨rfl, rfl, rfl, rfl⟩⟩
    · have hpe : preT b = decT b ++ [35] := if_neg h
      rw [hpe, List.append_assoc, decT_eq] at hl
      have hde : l.drop (0 + ((decD b).length : Int)).toNat = [35] ++ (ds.map sgn ++ (tailT r fs ++ endT b p)) := drop_at hl (by rw [List.length_map]; omega)
      exact ⟨true, decD b, _, b, _, _, hl, .inl rfl, decD_lt b, decD_ge b, Nat.le_trans (decD_le (by omega)) (by decide), decD_val (by omega), rfl, rfl, decide_eq_true (take1 hde), .inr ⟨h, rfl, rfl, by rw [← ho0, hpe, List.length_append, decT_eq, List.length_map]; simp only [List.length_cons, List.length_nil]; omega⟩⟩
  have he04 : e0 ≤ e4 ∧ 0 ≤ e0 ∧ e0 ≤ e2 ∧ 0 ≤ e2 ∧ e2 ≤ e3 ∧ e3 ≤ e4 ∧ e4 ≤ l.length ∧ 0 ≤ o0 := by
    rcases hbb with ⟨_, _, _, h⟩ | ⟨_, _, _, h⟩ <;> omega
  obtain ⟨h04, h00, h02, h20, h23, h34, h4l, hoo⟩ := he04
  clear hb1 hq1 hb2 hU hpre hdl hl ho0
  refine wpAny_call ?_
  k_dflt cell_enter
  walk_at "mine next"
  walk_at "mine next"
  walk_at "mine next"
  clear hA0 hT0 hD0 hn0 hn0' hv0 f1
  (rename Fr _ _ _ _ => lF'); (rename News _ _ _ _ => lN')
  (with_unfolding_all refine' my_cut (σ := (Int × Int) × Tok × Tok × Tok) [_] (fun c => [(Str.ofString "base", .int b c.2.1), (Str.ofString "value", .int c.1.1 c.2.2.1), (Str.ofString "end", .int c.1.2 c.2.2.2)]) [Str.ofString "count"] (fun c => c.1.1 = V1 ∧ c.1.2 = e2) lF' lN' ?cut ?exit)
  case cut =>
    clear hX1 hX2 hmk hm1 hUV hT2 hC hD hf9
    rcases hbb with ⟨hb10, hbf, hv, he⟩ | ⟨hb10, hbf, hv, he⟩
    · subst hb10 hbf hv he
      k_steps
      (try dsimp only)
      refine' MwEnd.intro ((_, _), _, _, _) ?F ?N ?led ?kk ?rr ?g
      walk_at "mine mw"
      case g => exact ⟨rfl, rfl⟩
    · subst hbf hv he
      k_steps
      (try dsimp only)
      refine' MwEnd.intro ((_, _), _, _, _) ?F ?N ?led ?kk ?rr ?g
      walk_at "mine mw"
      case g => exact ⟨rfl, rfl⟩
  case exit =>
  clear lF' lN' hA hT1
  rintro ⟨⟨v, e⟩, tb1, tv1, te1⟩ u1 h1' tk1 ⟨hv, he⟩ F1 N1
  dsimp only at hv he F1 N1 ⊢
  replace hv := hv.symm
  replace he := he.symm
  subst hv he
  walk_at "mine next"
  obtain ⟨y1, y2, hy1, hy2, fy1, fy2, hBr⟩ : ∃ y1 y2, (l.drop e2.toNat).take (e2 + 1 - e2).toNat = y1 ∧ (l.drop (e2 + 1).toNat).take (e2 + 2 - (e2 + 1)).toNat = y2 ∧ decide (y1 = [46]) = r ∧ (r = true → decide (y2 ≠ [46]) = true) ∧ (r = true → l.drop (e2 + 1).toNat = fs.map sgn ++ endT b p ∧ e2 + 1 + (fs.length : Int) = e3) := by
    refine ⟨_, _, rfl, rfl, ?_, ?_, ?_⟩
    · rw [take_one hB]
      cases r
      · exact decide_eq_false head_dot
      · exact decide_eq_true rfl
    · rintro rfl
      obtain ⟨d, q, rfl⟩ : ∃ d q, fs = d :: q := by
        cases fs with
        | nil => rcases hr with ⟨_, h⟩ | ⟨h, _⟩ <;> simp at h
        | cons d q => exact ⟨d, q, rfl⟩
      rw [take_two h20 hB]
      have hsr := sgn_range (d := d) (by have := hfs d (List.mem_cons_self ..); omega)
      exact decide_eq_true (by simp [tailT]; omega)
    · rintro rfl
      refine ⟨drop_drop' (a := [46]) h20 (by rw [hB]; rfl) (by simp), ?_⟩
      rw [← he3, show tailT true fs = 46 :: fs.map sgn from rfl, List.length_cons, List.length_map]; omega
  (rename Fr _ _ _ _ => lF'); (rename News _ _ _ _ => lN')
  (with_unfolding_all refine' my_cut (σ := Unit) [_] (fun c => [(Str.ofString "has_point", .bool r)]) [] (fun _ => True) lF' lN' ?cut ?exit)
  case cut =>
    clear hX1 hX2 hmk hm1 hUV hT2 hC hD hf9 hbb
    cases r
    · k_steps
      (try dsimp only)
      refine' MwEnd.intro () ?F ?N ?led ?kk ?rr ?g
      walk_at "mine mw"
      case g => trivial
    · have fy2' := fy2 rfl
      k_steps
      (try dsimp only)
      refine' MwEnd.intro () ?F ?N ?led ?kk ?rr ?g
      walk_at "mine mw"
      case g => trivial
  case exit =>
  clear lF' lN' hB fy1 fy2 hy1 hy2
  rintro ⟨⟩ u2 h2' tk2 _ F2 N2
  dsimp only at F2 N2 ⊢
  (rename Fr _ _ _ _ => lF'); (rename News _ _ _ _ => lN')
  (with_unfolding_all refine' my_cut (σ := (Int × Int × Int) × Tok × Tok × Tok) [_] (fun c => [(Str.ofString "value", .int c.1.1 c.2.1), (Str.ofString "end", .int c.1.2.1 c.2.2.1), (Str.ofString "places", .int c.1.2.2 c.2.2.2)]) [Str.ofString "part"] (fun c => c.1.1 = U ∧ c.1.2.1 = e3 ∧ c.1.2.2 = (fs.length : Int)) lF' lN' ?cut ?exit)
  case cut =>
    clear hX1 hX2 hmk hC hD hf9 hbb
    rcases hr with ⟨rfl, hf1⟩ | ⟨rfl, rfl, _⟩
    · obtain ⟨hB1, hB2⟩ := hBr rfl
      k_steps
      (try dsimp only)
      refine' MwEnd.intro ((_, _, _), _, _, _) ?F ?N ?led ?kk ?rr ?g
      walk_at "mine mw"
      case g => exact ⟨hUV, rfl, rfl⟩
    · have hU' : V1 = U := by rw [← hUV, ← hV2]; simp [val]
      have he' : e2 = e3 := by rw [← he3]; simp [tailT]
      subst hU' he'
      k_steps
      (try dsimp only)
      refine' MwEnd.intro ((_, _, _), _, _, _) ?F ?N ?led ?kk ?rr ?g
      walk_at "mine mw"
      case g => exact ⟨rfl, rfl, rfl⟩
  case exit =>
  clear lF' lN' hBr hT2 hm1 hUV
  rintro ⟨⟨v, e, pl⟩, tv2, te2, tp2⟩ u3 h3' tk3 ⟨hv, he, hpl⟩ F3 N3
  dsimp only at hv he hpl F3 N3 ⊢
  replace hv := hv.symm
  replace he := he.symm
  replace hpl := hpl.symm
  subst hv he hpl
  (rename Fr _ _ _ _ => lF'); (rename News _ _ _ _ => lN')
  (with_unfolding_all refine' my_cut (σ := Int × Tok) [_] (fun c => [(Str.ofString "end", .int c.1 c.2)]) [] (fun c => c.1 = e4) lF' lN' ?cut ?exit)
  case cut =>
    clear hX1 hX2 hmk hD hf9
    rcases hbb with ⟨hb10, hbf, _, _⟩ | ⟨hb10, hbf, _, _⟩
    · subst hbf
      have he' : e3 = e4 := by rw [← he4, if_pos hb10]; simp
      subst he'
      k_steps
      (try dsimp only)
      refine' MwEnd.intro (_, _) ?F ?N ?led ?kk ?rr ?g
      walk_at "mine mw"
      case g => exact rfl
    · subst hbf
      have he' : e3 + 1 = e4 := by rw [← he4, if_neg hb10]; simp
      have f4 := take1 (hC.trans (show endT b p = 35 :: expoT p by unfold endT; rw [if_neg hb10]; rfl))
      k_steps
      (try dsimp only)
      refine' MwEnd.intro (_, _) ?F ?N ?led ?kk ?rr ?g
      walk_at "mine mw"
      case g => exact he'
  case exit =>
  clear lF' lN' hC hbb
  rintro ⟨e, te4⟩ u4 h4' tk4 he F4 N4
  dsimp only at he F4 N4 ⊢
  replace he := he.symm
  subst he
  walk_at "mine next"
  obtain ⟨z2, hz2, fz2⟩ : ∃ z2, (l.drop (e4 + 1).toNat).take (e4 + 2 - (e4 + 1)).toNat = z2 ∧ (r = false → decide (z2 = [45]) = false) := by
    refine ⟨_, rfl, fun h => decide_eq_false ?_⟩
    rw [take_two (by omega) hD]
    rcases hr with ⟨h', _⟩ | ⟨_, _, h'⟩
    · rw [h] at h'; cases h'
    · exact head_minus h' hp'
  (rename Fr _ _ _ _ => lF'); (rename News _ _ _ _ => lN')
  (with_unfolding_all refine' my_cut (σ := Unit) [_] (fun c => []) [] (fun _ => True) lF' lN' ?cut ?exit)
  case cut =>
    clear hX1 hX2 hmk hD hf9
    rcases hr with ⟨rfl, hf1⟩ | ⟨rfl, rfl, hpn⟩
    · k_steps
      (try dsimp only)
      refine' MwEnd.intro () ?F ?N ?led ?kk ?rr ?g
      walk_at "mine mw"
      case g => trivial
    · have fz2' := fz2 rfl
      k_steps
      (try dsimp only)
      refine' MwEnd.intro () ?F ?N ?led ?kk ?rr ?g
      walk_at "mine mw"
      case g => trivial
  case exit =>
  clear lF' lN' hD hz2 fz2
  rintro ⟨⟩ u5 h5' tk5 _ F5 N5
  dsimp only at F5 N5 ⊢
  walk_at "mine next"
  rcases hr with ⟨rfl, hf1⟩ | ⟨rfl, rfl, hpn⟩
  · have hX1 := hX1 rfl
    have hX2 := hX2 rfl
    by_cases hpt : p < (fs.length : Int)
    · obtain ⟨hX, hY⟩ := hX1 hpt
      have hq := pow_le_two hb hb' (show ((fs.length : Int) - p).toNat ≤ 480 by omega)
      have hc1 : (0 : Int) < b ^ ((fs.length : Int) - p).toNat := Int.pow_pos (by omega)
      have hc2 : Small (b ^ ((fs.length : Int) - p).toNat) := Int.lt_trans hq.2 (by decide +kernel)
      clear hX1 hX2 hq hmk
      k_steps
      (refine' retN hret ⟨_, _, _, _, _, _, _, _, rfl, rfl, And.left (by assumption), And.left (by assumption)⟩ ?F ?N ?hex ?led ?lt)
      case F => assumption
      case N => assumption
      case hex => walk_at "mine ex"
      case led => walk_at "mine sub"
      case lt => walk_at "mine lts"
    · obtain ⟨hX, hY⟩ := hX2 hpt
      have hm2 := hmk (p - (fs.length : Int)).toNat (by omega)
      have hB0 : 0 ≤ U * b ^ (p - (fs.length : Int)).toNat := Int.mul_nonneg hU0 (Int.le_of_lt (Int.pow_pos (by omega)))
      clear hX1 hX2 hmk
      k_steps
      (refine' retN hret ⟨_, _, _, _, _, _, _, _, rfl, rfl, And.left (by assumption), And.left (by assumption)⟩ ?F ?N ?hex ?led ?lt)
      case F => assumption
      case N => assumption
      case hex => walk_at "mine ex"
      case led => walk_at "mine sub"
      case lt => walk_at "mine lts"
  · have hm2 := hmk p.toNat (by omega)
    clear hX1 hX2 hmk
    k_steps
    (refine' retN hret ⟨_, _, _, _, _, _, rfl, rfl, And.left (by assumption)⟩ ?F ?N ?hex ?led ?lt)
    case F => assumption
    case N => assumption
    case hex => walk_at "mine ex"
    case led => walk_at "mine sub"
    case lt => walk_at "mine lts"

end Mine

-- part toks
namespace Mine
theorem gaps_no {d : Nat} (h : d < 10) : decide (sgn d ∈ (Str.ofString " \t\r\n\x0c\x0b").cps.toList) = false := by
  have key : ∀ d : Nat, d < 10 → decide (sgn d ∈ (Str.ofString " \t\r\n\x0c\x0b").cps.toList) = false := by decide
  exact key d h
theorem figs_yes {d : Nat} (h : d < 10) : decide (sgn d ∈ (Str.ofString "0123456789").cps.toList) = true := by
  have key : ∀ d : Nat, d < 10 → decide (sgn d ∈ (Str.ofString "0123456789").cps.toList) = true := by decide
  exact key d h
theorem linestoks_1 : True := by
  k_with "WhlIf" =>
    first | (refine WhlIf.yes (decide_eq_true (by omega)) ?_) | (refine WhlIf.no (decide_eq_false (by omega)) ?_)
  k_with "call ref" =>
    ((with_reducible show wpAny _ _ (call (Value.ref 186) _) _ _ _); (refine wpAny_call ?_); k_dflt (walk_at "mine enter"))
  k_with "call ref" =>
    ((with_reducible show wpAny _ _ (call (Value.ref 151) _) _ _ _); k_extra "mine number")
  trivial
def IntList (V : Int) (v : Value) (ex : List (Addr × Obj)) : Prop :=
  ∃ D1 D2 t1 t2 t3, v = .ref D2 ∧ ex = [(D1, { cls := .type "tuple", data := .seq [.str (Str.ofString "int") t1, .int V t2, .int 1 t3].toArray }), (D2, PySem.W.listOf #[.ref D1] 1)] ∧ D2 < D1
set_option maxHeartbeats 8000000 in
theorem toks_int {w : World} {mean : ExcName → Option Value} {mg mb : Str → Option Value} (l r : List Nat) (d : Nat) (V : Int) (t0 : Tok)
    (hlen : l.length ≤ 1000) (hl : l = sgn d :: r) (hd : d < 10)
    (C : ∀ t0 ti tn, Con w mean mg mb 151 4 [.str (S l) t0, .int 0 ti, .int 1 tn] (IntTok V l.length 1)) :
    Con w mean mg mb 200 6 [.str (S l) t0] (IntList V) := by
  unfold Con
  k_fill
  intro dp un gd cn cs ad ccd cl outer A₀ base h₀ L m news s Q E B F X0 N T hk hdp hun hret
  have h1 : 1 ≤ l.length := by rw [hl]; simp
  have hcc : l[Int.toNat 0]? = some (sgn d) := by rw [hl]; rfl
  have hsr := sgn_range (d := d) (by omega)
  have hs65 : sgn d < 65 := by unfold sgn; rw [if_pos hd]; omega
  have hg := gaps_no hd
  have hf := figs_yes hd
  obtain ⟨r2, hr2⟩ : ∃ r2, List.take (0 + 2 - 0 : Int).toNat (List.drop (Int.toNat 0) l) = r2 := ⟨_, rfl⟩
  have hr3 : decide (r2 = [45, 45]) = false := by
    refine decide_eq_false (fun e => ?_)
    rw [← hr2, hl] at e
    have : sgn d = 45 := by
      have := congrArg List.head? e
      simpa using this
    omega
  have hq1 : decide ([sgn d] = [34]) = false := decide_eq_false (fun e => by simp at e; omega)
  refine wpAny_call ?_
  k_dflt cell_enter
  k_with "mine while" => (k_dflt (refine whl_start 5 ?_))
  k_with "mine number" => (
    k_dflt (refine' Con.use (C _ _ _) ?k1 ?k2 ?k3 ?k4 ?k5 ?kK ?kd ?ku ?_)
    walk_at "mine con"
    intro v9 ex9 h9 tk9 P9 lt9 F9 N9
    obtain ⟨D8, D9, t6, t7, t8, t9, hv9, hex9, hD9⟩ := P9
    subst hex9 hv9
    (try simp only [List.nil_append, List.cons_append] at N9)
    (have l9 := fun p hp => lt9 p hp _ (List.mem_cons_self ..))
    (have l8 := fun p hp => lt9 p hp _ (List.mem_cons_of_mem _ (List.mem_cons_self ..)))
    clear lt9
    (try k_lt l9)
    (try k_lt l8)
    (try k_sweep))
  k_steps
  (refine' retN hret ⟨D8, _, _, _, _, rfl, rfl, And.left (by assumption)⟩ ?F ?N ?hex ?led ?lt)
  case F => assumption
  case N => assumption
  case hex => walk_at "mine ex"
  case led => walk_at "mine sub"
  case lt => walk_at "mine lts"
def RealList (X Y : Int) (v : Value) (ex : List (Addr × Obj)) : Prop :=
  ∃ D0 D1 D2 t1 t2 t3 t4, v = .ref D2 ∧ ex = [(D1, { cls := .type "tuple", data := .seq [.str (Str.ofString "real") t1, .ref D0, .int 1 t2].toArray }), (D0, { cls := .type "tuple", data := .seq [.int X t3, .int Y t4].toArray }), (D2, PySem.W.listOf #[.ref D1] 1)] ∧ D0 < D1 ∧ D2 < D0
set_option maxHeartbeats 8000000 in
theorem toks_real {w : World} {mean : ExcName → Option Value} {mg mb : Str → Option Value} (l r : List Nat) (d : Nat) (X Y : Int) (t0 : Tok)
    (hlen : l.length ≤ 1000) (hl : l = sgn d :: r) (hd : d < 10)
    (C : ∀ t0 ti tn, Con w mean mg mb 151 4 [.str (S l) t0, .int 0 ti, .int 1 tn] (RealTok X Y l.length 1)) :
    Con w mean mg mb 200 6 [.str (S l) t0] (RealList X Y) := by
  unfold Con
  k_fill
  intro dp un gd cn cs ad ccd cl outer A₀ base h₀ L m news s Q E B F X0 N T hk hdp hun hret
  have h1 : 1 ≤ l.length := by rw [hl]; simp
  have hcc : l[Int.toNat 0]? = some (sgn d) := by rw [hl]; rfl
  have hsr := sgn_range (d := d) (by omega)
  have hs65 : sgn d < 65 := by unfold sgn; rw [if_pos hd]; omega
  have hg := gaps_no hd
  have hf := figs_yes hd
  obtain ⟨r2, hr2⟩ : ∃ r2, List.take (0 + 2 - 0 : Int).toNat (List.drop (Int.toNat 0) l) = r2 := ⟨_, rfl⟩
  have hr3 : decide (r2 = [45, 45]) = false := by
    refine decide_eq_false (fun e => ?_)
    rw [← hr2, hl] at e
    have : sgn d = 45 := by
      have := congrArg List.head? e
      simpa using this
    omega
  have hq1 : decide ([sgn d] = [34]) = false := decide_eq_false (fun e => by simp at e; omega)
  refine wpAny_call ?_
  k_dflt cell_enter
  k_with "mine while" => (k_dflt (refine whl_start 5 ?_))
  k_with "mine number" => (
    k_dflt (refine' Con.use (C _ _ _) ?k1 ?k2 ?k3 ?k4 ?k5 ?kK ?kd ?ku ?_)
    walk_at "mine con"
    intro v9 ex9 h9 tk9 P9 lt9 F9 N9
    obtain ⟨D7, D8, D9, t5, t6, t7, t8, t9, hv9, hex9, hD9, hD8⟩ := P9
    subst hex9 hv9
    (try simp only [List.nil_append, List.cons_append] at N9)
    (have l9 := fun p hp => lt9 p hp _ (List.mem_cons_self ..))
    (have l8 := fun p hp => lt9 p hp _ (List.mem_cons_of_mem _ (List.mem_cons_self ..)))
    (have l7 := fun p hp => lt9 p hp _ (List.mem_cons_of_mem _ (List.mem_cons_of_mem _ (List.mem_cons_self ..))))
    clear lt9
    (try k_lt l9)
    (try k_lt l8)
    (try k_lt l7)
    (try k_sweep))
  k_steps
  (refine' retN hret ⟨D7, D8, _, _, _, _, _, rfl, rfl, hD8, And.left l7⟩ ?F ?N ?hex ?led ?lt)
  case F => assumption
  case N => assumption
  case hex => walk_at "mine ex"
  case led => walk_at "mine sub"
  case lt => walk_at "mine lts"

end Mine

-- part loops2
namespace Mine
-- a loop over a text's signs by what holds of its letters
theorem kst_em {ps : List (Str × Value)} {stored : List Str} {m₀ m₁ : Str → Option Value} (h1 : ∀ p ∈ ps, m₁ p.1 = some p.2) (h2 : ∀ z, (∀ p ∈ ps, z ≠ p.1) → stored.contains z = false → m₁ z = m₀ z) :
    m₁ = kstB (fun z => if stored.contains z then m₁ z else m₀ z) ps := by
  funext y
  refine (kstB_eq h1 fun hn => ?_).symm
  show (if stored.contains y = true then m₁ y else m₀ y) = m₁ y
  cases h3 : stored.contains y with
  | true => simp
  | false => simp only [Bool.false_eq_true, if_false]; exact (h2 y hn h3).symm
def TxPost {σ : Type} (h₀ : Heap) (L : Addr) (s : Shared) (news : List (Addr × Obj)) (ps : σ → List (Str × Value)) (stored : List Str) (m₀ : Str → Option Value) (G : σ → Prop) (Q : Flow → Shared → Prop) (f : Flow) (s₂ : Shared) : Prop :=
  match f with
  | .ret v => Q (.ret v) s₂
  | .brk => Q .next s₂
  | _ => MwEnd h₀ L s news ps stored m₀ G s₂
section
variable {prog : Program} {w : World} {A : Around} {E : Value → Shared → Prop} {s : Shared} {env : Env} {h₀ : Heap} {x : Str} {body : List Stmt} {Q : Flow → Shared → Prop}
theorem iter_text {σ : Type} {l : List Nat} {tx : Tok} {m₀ : Str → Option Value} {news : List (Addr × Obj)} (ps : σ → List (Str × Value)) (stored : List Str) (P : Nat → σ → Prop) (c₀ : σ)
    (hh : A.handled = none) (F : Fr h₀ env.locals s.heap m₀) (N : News h₀ env.locals s.heap news) (hk : ∀ p ∈ ps c₀, m₀ p.1 = some p.2) (hp : P 0 c₀)
    (turn : ∀ (i : Nat) (c : σ) (n : Nat) t (u : Str → Option Value) h tk own, l[i]? = some n → P i c → Fr h₀ env.locals h (fun y => if y = x then some (.str (S [n]) t) else kstB (fun z => if stored.contains z then u z else m₀ z) (ps c) y) → News h₀ env.locals h (own ++ news) →
      wpAny (model prog w) A (execs body env) (TxPost h₀ env.locals { s with heap := h, toks := tk } (own ++ news) ps stored m₀ (P (i + 1)) Q) E { s with heap := h, toks := tk })
    (done : ∀ (c : σ) (u : Str → Option Value) h tk, P l.length c → Fr h₀ env.locals h (kstB (fun z => if stored.contains z then u z else m₀ z) (ps c)) → News h₀ env.locals h news → Q .next { s with heap := h, toks := tk }) :
    wpAny (model prog w) A (pyIter (.str (S l) tx)) (fun it s₂ => LoopAtV prog w A h₀ env x body Q E it s₂) E s := by
  refine wpAny_pyIter_str fun o St hW hst => ?_
  have W := hW A hh
  have hlen : (S l).cps.size = l.length := by simp [S]
  rw [hlen] at W
  let J' : Nat → (Str → Option Value) → List (Addr × Obj) → Prop := fun i m₁ news₁ => news₁ = news ∧ ∃ c, (∀ p ∈ ps c, m₁ p.1 = some p.2) ∧ (∀ z, (∀ p ∈ ps c, z ≠ p.1) → stored.contains z = false → m₁ z = m₀ z) ∧ P i c
  refine ⟨_, _, _, l.length, _, _, m₀, news, J', rfl, W, ?_, ?_, ?_, hst, F.push _, (fun p hp => ⟨Heap.get?_push_of_some _ (N p hp).1, (N p hp).2⟩), ⟨rfl, c₀, hk, fun _ _ _ => rfl, hp⟩, ?_, ?_⟩
  · intro hm
    exact absurd F.ns.lt ((List.mem_singleton.mp hm) ▸ Nat.lt_irrefl _)
  · intro b hb
    rw [List.mem_singleton.mp hb]
    exact next_is_new F
  · intro p hp hI
    exact absurd (Heap.lt_size (N p hp).1) ((List.mem_singleton.mp hI) ▸ Nat.lt_irrefl _)
  · rintro i v m₁ news₁ s₁ own ⟨hh', tk', rfl⟩ hin ⟨n, u, hn, rfl⟩ ⟨rfl, c, h1, h2, hJ⟩ hoff _ _ _ _ F₁ N₁
    have hn' : l[i]? = some n := by simpa [S] using hn
    rw [kst_em h1 h2] at F₁
    refine wpAny_mono (turn i c n u m₁ hh' tk' own hn' hJ F₁ N₁) (fun f s₂ p => ?_) fun _ _ e => e
    have fin : MwEnd h₀ env.locals { s with heap := hh', toks := tk' } (own ++ news₁) ps stored m₀ (P (i + 1)) s₂ → LoopStepU h₀ env.locals [s.heap.objs.size] own (J' (i + 1)) { s with heap := hh', toks := tk' } .next s₂ := by
      rintro ⟨c', h', tk, m', news', e, F', N', hn, hk', hm', hp'⟩
      exact ⟨rfl, h', tk, m', news₁, e, F', fun p hp => N' p (hn p hp), hoff, rfl, c', hk', hm', hp'⟩
    cases f with
    | ret v => exact .ret p
    | brk => exact .brk p
    | next => exact .next (fin p)
    | cont => exact .cont (fin p)
  · rintro h' tk m' news' F' N' _ ⟨rfl, c, h1, h2, hJ⟩
    rw [kst_em h1 h2] at F'
    exact done c m' h' tk hJ F' N'
end
-- where a sign stands in a text
theorem occ_none {l : List Nat} {c : Nat} {k : Nat} (h : c ∉ l) : Builtin.Str.occurrences (S l) (S [c]) 0 (S l).length (k + 1) = [] := by
  rcases StrLaws.occ_head (S l) (S [c]) (k + 1) (by omega) with ⟨h0, _⟩ | ⟨i, r, _, ha, _⟩
  · exact h0
  · exfalso
    have := (StrLaws.subAt_one (S l) c i).mp ha
    rw [S_list] at this
    exact h (List.mem_of_getElem? this)
theorem occ_first_at {a r : List Nat} {c : Nat} {k : Nat} (h : c ∉ a) : ∃ q, Builtin.Str.occurrences (S (a ++ c :: r)) (S [c]) 0 (S (a ++ c :: r)).length (k + 1) = a.length :: q := by
  rcases StrLaws.occ_head (S (a ++ c :: r)) (S [c]) (k + 1) (by omega) with ⟨_, hn⟩ | ⟨i, q, h0, ha, hn⟩
  · exfalso
    refine hn a.length ((StrLaws.subAt_one (S (a ++ c :: r)) c a.length).mpr ?_)
    rw [S_list]; simp
  · refine ⟨q, ?_⟩
    have h1 := (StrLaws.subAt_one (S (a ++ c :: r)) c i).mp ha
    rw [S_list] at h1
    have h2 : ¬ a.length < i := fun hlt => hn a.length hlt ((StrLaws.subAt_one (S (a ++ c :: r)) c a.length).mpr (by rw [S_list]; simp))
    have h3 : ¬ i < a.length := fun hlt => by
      rw [List.getElem?_append_left hlt] at h1
      exact h (List.mem_of_getElem? h1)
    rw [h0, show i = a.length by omega]
theorem sub_S (l : List Nat) (i j : Nat) : Builtin.Str.strSub (S l) i j = S ((l.drop i).take (j - i)) := by
  refine Str.ext' (Array.toList_inj.mp ?_)
  rw [StrLaws.strSub_toList, S_list, S_list]
theorem part_none {l : List Nat} {c : Nat} (h : c ∉ l) : Txt.partition (S l) (S [c]) = (S l, S [], S []) := by
  unfold Txt.partition
  rw [occ_none h]; rfl
theorem part_at {a r : List Nat} {c : Nat} (h : c ∉ a) : Txt.partition (S (a ++ c :: r)) (S [c]) = (S a, S [c], S r) := by
  obtain ⟨q, hq⟩ := occ_first_at (r := r) (k := 0) h
  unfold Txt.partition
  rw [show (1 : Nat) = 0 + 1 from rfl, hq]
  simp only []
  rw [sub_S, sub_S, S_len, S_len]
  congr 1
  · simp
  · congr 1
    have e : (a ++ c :: r).drop (a.length + [c].length) = r := by
      rw [show (a.length + [c].length) = (a ++ [c]).length by simp, show a ++ c :: r = (a ++ [c]) ++ r by simp, List.drop_left]
    rw [e, List.take_of_length_le]
    simp only [List.length_append, List.length_cons, List.length_nil]
    omega
theorem app_inj {c : Nat} : ∀ {a b r s : List Nat}, c ∉ a → c ∉ b → a ++ c :: r = b ++ c :: s → a = b ∧ r = s
  | [], [], _, _, _, _, e => ⟨rfl, by simpa using e⟩
  | [], y :: b, _, _, _, hb, e => by
    simp only [List.nil_append, List.cons_append, List.cons.injEq] at e
    exact absurd (by rw [← e.1]; exact List.mem_cons_self ..) hb
  | x :: a, [], _, _, ha, _, e => by
    simp only [List.nil_append, List.cons_append, List.cons.injEq] at e
    exact absurd (by rw [e.1]; exact List.mem_cons_self ..) ha
  | x :: a, y :: b, r, s, ha, hb, e => by
    simp only [List.cons_append, List.cons.injEq] at e
    obtain ⟨h1, h2⟩ := app_inj (fun h => ha (List.mem_cons_of_mem _ h)) (fun h => hb (List.mem_cons_of_mem _ h)) e.2
    exact ⟨by rw [e.1, h1], h2⟩
theorem join_list (c : Nat) (p q : Str) (r : List Str) : (Str.join (S [c]) (p :: q :: r)).cps.toList = p.cps.toList ++ c :: (Str.join (S [c]) (q :: r)).cps.toList := by
  show ((p ++ S [c]) ++ Str.join (S [c]) (q :: r)).cps.toList = _
  rw [Str.cps_append, Array.toList_append, Str.cps_append, Array.toList_append, S_list]
  simp
theorem str_of_list {x : Str} {l : List Nat} (h : x.cps.toList = l) : x = S l := by
  refine Str.ext' ?_
  rw [← h]; simp [S]
theorem split_two {a b : List Nat} {c : Nat} (ha : c ∉ a) (hb : c ∉ b) : Txt.split (S (a ++ c :: (b ++ c :: []))) (S [c]) = [S a, S b, S []] := by
  have hj := StrLaws.join_split (S (a ++ c :: (b ++ c :: []))) (S [c])
  have hf : ∀ p ∈ Txt.split (S (a ++ c :: (b ++ c :: []))) (S [c]), c ∉ p.cps.toList := StrLaws.split_free (S (a ++ c :: (b ++ c :: []))) c
  revert hj hf
  generalize Txt.split (S (a ++ c :: (b ++ c :: []))) (S [c]) = ps
  intro hj hf
  have hj := congrArg (fun x : Str => x.cps.toList) hj
  have hj : (Str.join (S [c]) ps).cps.toList = (S (a ++ c :: (b ++ c :: []))).cps.toList := hj
  rw [S_list] at hj
  match ps, hj, hf with
  | [], hj, _ =>
    exfalso
    have := congrArg List.length hj
    simp [Str.join, Str.empty] at this
  | [p], hj, hf =>
    exfalso
    refine hf p (List.mem_cons_self ..) ?_
    have hj : p.cps.toList = _ := hj
    rw [hj]; simp
  | p :: q :: r, hj, hf =>
    rw [join_list] at hj
    obtain ⟨e1, e2⟩ := app_inj (hf p (by simp)) ha hj
    match r, e2, hf with
    | [], e2, hf =>
      exfalso
      refine hf q (by simp) ?_
      have e2 : q.cps.toList = _ := e2
      rw [e2]; simp
    | t :: r2, e2, hf =>
      rw [join_list] at e2
      obtain ⟨e3, e4⟩ := app_inj (hf q (by simp)) hb e2
      match r2, e4 with
      | [], e4 =>
        have e4 : t.cps.toList = [] := e4
        rw [str_of_list e1, str_of_list e3, str_of_list e4]
      | v :: r3, e4 =>
        exfalso
        rw [join_list] at e4
        have := congrArg List.length e4
        simp at this
def hexL : List Nat := [48, 49, 50, 51, 52, 53, 54, 55, 56, 57, 97, 98, 99, 100, 101, 102]
theorem lit_hex : Str.ofString "0123456789abcdef" = S hexL := by decide
theorem hex_get : ∀ d : Nat, d < 16 → hexL[d]? = some (sgn d) := by decide
theorem hex_index {b d : Nat} (hb : b ≤ 16) (hd : d < b) : ∃ q, Builtin.Str.occurrences (S (hexL.take b)) (S [sgn d]) 0 (S (hexL.take b)).length 1 = d :: q := by
  have h1 : hexL.take b = hexL.take d ++ sgn d :: (hexL.take b).drop (d + 1) := by
    have hlen : d < (hexL.take b).length := by rw [List.length_take]; show d < min b 16; omega
    have hg : (hexL.take b)[d] = sgn d := by
      have := hex_get d (by omega)
      rw [List.getElem_take]
      rw [List.getElem?_eq_some_iff] at this
      exact this.2
    have h2 := List.take_append_drop d (hexL.take b)
    rw [List.drop_eq_getElem_cons hlen, hg, List.take_take, Nat.min_eq_left (by omega)] at h2
    exact h2.symm
  have h2 : sgn d ∉ hexL.take d := by
    have key : ∀ d : Nat, d < 16 → sgn d ∉ hexL.take d := by decide
    exact key d (by omega)
  obtain ⟨q, hq⟩ := occ_first_at (r := (hexL.take b).drop (d + 1)) (k := 0) h2
  rw [← h1] at hq
  refine ⟨q, ?_⟩
  have h3 : (hexL.take d).length = d := by rw [List.length_take]; show min d 16 = d; omega
  rw [h3] at hq
  exact hq
section
variable {prog : Program} {w : World} {A : Around} {E : Value → Shared → Prop} {s : Shared} {value slice : PySem.Expr} {l a b c : List Nat} {t u : Tok} {i j : Int} {Q : Value → Shared → Prop} {h₀ : Heap} {L : Addr} {m : PySem.Str → Option Value} {news : List (Addr × Obj)}
theorem slice_hex {uj : Tok} (hF : Fr h₀ L s.heap m) (hN : News h₀ L s.heap news) (h0 : 0 ≤ j) (h : ∀ h' t' k, Fr h₀ L h' m → News h₀ L h' news → Q (.str (S (hexL.take j.toNat)) t') { s with heap := h', toks := k })
    (hs : subscripted slice false (.str (Str.ofString "0123456789abcdef") t) (.ref s.heap.objs.size) = operate [.ref s.heap.objs.size, .str (Str.ofString "0123456789abcdef") t] (getItem (.str (Str.ofString "0123456789abcdef") t) (.ref s.heap.objs.size)) := by with_unfolding_all rfl)
    (ht : ∀ r, letTemporaryGo value (.str (Str.ofString "0123456789abcdef") t) r = pure () := by intro _; with_unfolding_all rfl) :
    wpAny (model prog w) A (subscriptTail value slice (.str (Str.ofString "0123456789abcdef") t) (.ref s.heap.objs.size)) Q E { s with heap := s.heap.push { cls := .type "slice", data := .fields #[.none, .int j uj, .none] } } :=
  slice_strN_ns hF hN (fun h' t' k F N => by rw [lit_hex, slice_ns hexL h0]; exact h h' t' k F N) hs ht (by decide +kernel)
theorem index_hex {n d : Nat} {z : Int} (hn : n ≤ 16) (hd : d < n) (hz : (d : Int) = z) (h : ∀ t' tk, Q (.int z t') { s with toks := tk }) :
    wpAny (model prog w) A (call (.builtin "str.index") [.str (S (hexL.take n)) t, .str (S [sgn d]) u]) Q E s := by
  obtain ⟨q, hq⟩ := hex_index hn hd
  refine SC.index hq ?_
  rw [hz]; exact h _ _
theorem part_S {x y : PySem.Str} {e : Nat} (hy : y = S [e]) (hF : Fr h₀ L s.heap m) (hN : News h₀ L s.heap news) (hsz : l.length ≤ 100000) (hp : Txt.partition (S l) (S [e]) = (S a, S b, S c))
    (h : ∀ D ta tb tc h' k, Fr h₀ L h' m → News h₀ L h' ((D, { cls := .type "tuple", data := .seq [.str (S a) ta, .str (S b) tb, .str (S c) tc].toArray }) :: news) → (∀ p ∈ news, p.1 < D) → Q (.ref D) { s with heap := h', toks := k }) :
    wpAny (model prog w) A (call (.builtin "str.partition") [.str (S l) t, .str y u]) Q E s := by
  subst hy
  exact KXpa.partition hF hN (by rfl) (by rw [hp]) (by rw [hp]) (by rw [hp]) (by rw [S_len, sizeLine_eq]; omega) h
theorem split_S {x y : PySem.Str} {e : Nat} (hy : y = S [e]) (hF : Fr h₀ L s.heap m) (hN : News h₀ L s.heap news) (hsz : l.length ≤ 100000) (hp : Txt.split (S l) (S [e]) = [S a, S b, S c])
    (h : ∀ D ta tb tc h' k, Fr h₀ L h' m → News h₀ L h' ((D, PySem.W.listOf [.str (S a) ta, .str (S b) tb, .str (S c) tc].toArray 0) :: news) → (∀ p ∈ news, p.1 < D) → Q (.ref D) { s with heap := h', toks := k }) :
    wpAny (model prog w) A (call (.builtin "str.split") [.str (S l) t, .str y u]) Q E s := by
  subst hy
  refine KSpl.split1 hF hN (by rfl) (fun D l' h' k e1 _ F' N' lt => ?_) (by rw [S_len, sizeLine_eq]; omega)
  rw [hp] at e1
  obtain ⟨ta, r1, rfl, e2⟩ := KSpl.cons_of e1
  obtain ⟨tb, r2, rfl, e3⟩ := KSpl.cons_of e2
  obtain ⟨tc, r3, rfl, e4⟩ := KSpl.cons_of e3
  have := KSpl.nil_of e4
  subst this
  exact h D ta tb tc h' k F' N' lt
theorem int_S {n : Int} (hn : PySem.intText? (S l) = some n) (hl : l.length ≤ 640) (h : ∀ t' tk, Q (.int n t') { s with toks := tk }) : wpAny (model prog w) A (call (.type "int") [.str (S l) t]) Q E s :=
  KIN.call_text hn (by rw [S_len]; exact hl) (h _ _)
end
theorem sgn_digit {d : Nat} (h : d < 10) : sgn d = 48 + d := by unfold sgn; rw [if_pos h]
theorem digitsVal_sgn : ∀ ds : List Nat, (∀ d ∈ ds, d < 10) → NumText.digitsVal (ds.map sgn) = val 10 ds := by
  refine snoc_ind ?_ ?_
  · intro _; rfl
  · intro ds d ih h
    rw [List.map_append, List.map_singleton, NumText.digitsVal_snoc, val_snoc, ih (fun x hx => h x (by simp [hx])), sgn_digit (h d (by simp))]
    omega
theorem allDigits_sgn {ds : List Nat} (h : ∀ d ∈ ds, d < 10) : NumText.AllDigits (ds.map sgn) := by
  intro c hc
  obtain ⟨d, hd, rfl⟩ := List.mem_map.mp hc
  have := h d hd
  rw [sgn_digit this]; omega
theorem intText_dec {n : Int} (h0 : 0 ≤ n) (h : n < 1000000) : PySem.intText? (S (decT n)) = some n := by
  have hd : ∀ d ∈ decD n, d < 10 := digs_lt (by decide) _ _
  have hg := decD_ge n
  have hl := decD_le h
  rw [decT_eq, PySem.intText_digits (by rw [S_list]; exact allDigits_sgn hd) (by rw [S_list]; intro e; have := congrArg List.length e; simp at this; rw [this] at hg; simp at hg) (by rw [S_len, List.length_map]; omega), S_list, digitsVal_sgn _ hd]
  have := decD_val h0
  rw [show val 10 (decD n) = val (Int.toNat 10) (decD n) from rfl, this]
theorem intText_neg_dec {n : Int} (h0 : 0 ≤ n) (h : n < 1000000) : PySem.intText? (S (45 :: decT n)) = some (-n) := by
  have hd : ∀ d ∈ decD n, d < 10 := digs_lt (by decide) _ _
  have hg := decD_ge n
  have hl := decD_le h
  rw [decT_eq, PySem.intText_neg (x := S (45 :: (decD n).map sgn)) (cs := (decD n).map sgn) (by rw [S_list]) (allDigits_sgn hd) (by intro e; have := congrArg List.length e; simp at this; rw [this] at hg; simp at hg) (by rw [S_len, List.length_cons, List.length_map]; omega), digitsVal_sgn _ hd]
  have := decD_val h0
  rw [show val 10 (decD n) = val (Int.toNat 10) (decD n) from rfl, this]

end Mine

-- part worth
namespace Mine
-- the signs of a literal's body
theorem sgn_ne {d c : Nat} (hd : d < 16) (h : c < 48 ∨ (57 < c ∧ c < 97)) : sgn d ≠ c := by have := sgn_range hd; omega
theorem map_free {ds : List Nat} {c : Nat} (hds : ∀ d ∈ ds, d < 16) (h : c < 48 ∨ (57 < c ∧ c < 97)) : c ∉ ds.map sgn := by
  intro hm
  obtain ⟨d, hd, e⟩ := List.mem_map.mp hm
  exact sgn_ne (hds d hd) h e
theorem dec_free {n : Int} {c : Nat} (h : c < 48 ∨ (57 < c ∧ c < 97)) : c ∉ decT n := by
  rw [decT_eq]
  exact map_free (fun d hd => by have := decD_lt n d hd; omega) h
def bodyT (b : Int) (tx : List Nat) : List Nat := if b = 10 then tx else decT b ++ 35 :: (tx ++ 35 :: [])
theorem showB_body (b : Int) (tx : List Nat) (p : Int) : showB b tx p = bodyT b tx ++ expoT p := by
  rw [showB_eq]; unfold bodyT; split <;> simp
theorem body_free {b : Int} {tx : List Nat} (h : 69 ∉ tx) : 69 ∉ bodyT b tx := by
  unfold bodyT
  split
  · exact h
  · intro hm
    simp only [List.mem_append, List.mem_cons, List.not_mem_nil, or_false] at hm
    rcases hm with hm | hm | hm | hm
    · exact dec_free (by decide) hm
    · omega
    · exact h hm
    · omega
theorem part_expo {bt : List Nat} (h : 69 ∉ bt) {p : Int} (h1 : -400 ≤ p) (h2 : p ≤ 400) :
    (p = 0 ∧ Txt.partition (S (bt ++ expoT p)) (S [69]) = (S bt, S [], S [])) ∨ (p ≠ 0 ∧ ∃ td, Txt.partition (S (bt ++ expoT p)) (S [69]) = (S bt, S [69], S td) ∧ PySem.intText? (S td) = some p ∧ td.length ≤ 640) := by
  by_cases hp : p = 0
  · refine .inl ⟨hp, ?_⟩
    subst hp
    rw [show expoT 0 = [] from rfl, List.append_nil]
    exact part_none h
  · refine .inr ⟨hp, (if p < 0 then [45] else []) ++ decT (if p < 0 then -p else p), ?_, ?_, ?_⟩
    · unfold expoT
      rw [if_neg hp]
      exact part_at h
    · by_cases hs : p < 0
      · rw [if_pos hs, if_pos hs]
        have := intText_neg_dec (n := -p) (by omega) (by omega)
        rw [Int.neg_neg] at this
        exact this
      · rw [if_neg hs, if_neg hs]
        exact intText_dec (by omega) (by omega)
    · have h1 : (decD (if p < 0 then -p else p)).length ≤ 6 := decD_le (by split <;> omega)
      rw [List.length_append, decT_eq, List.length_map]
      have : (if p < 0 then [45] else ([] : List Nat)).length ≤ 1 := by split <;> simp
      omega
theorem body_split {b : Int} {tx : List Nat} (h : 35 ∉ tx) (hb : 2 ≤ b) (hb' : b ≤ 16) :
    (b = 10 ∧ bodyT b tx = tx ∧ decide (35 ∈ (S (bodyT b tx)).cps.toList) = false) ∨ (b ≠ 10 ∧ decide (35 ∈ (S (bodyT b tx)).cps.toList) = true ∧ Txt.split (S (bodyT b tx)) (S [35]) = [S (decT b), S tx, S []] ∧ PySem.intText? (S (decT b)) = some b ∧ (decT b).length ≤ 640 ∧ (bodyT b tx).length ≤ tx.length + 8) := by
  by_cases hb10 : b = 10
  · refine .inl ⟨hb10, by unfold bodyT; rw [if_pos hb10], ?_⟩
    unfold bodyT
    rw [if_pos hb10, S_list]
    exact decide_eq_false h
  · have e : bodyT b tx = decT b ++ 35 :: (tx ++ 35 :: []) := by unfold bodyT; rw [if_neg hb10]
    have hl : (decT b).length ≤ 6 := by rw [decT_eq, List.length_map]; exact decD_le (by omega)
    refine .inr ⟨hb10, ?_, ?_, intText_dec (by omega) (by omega), by omega, ?_⟩
    · rw [e, S_list]
      exact decide_eq_true (by simp)
    · rw [e]; exact split_two (dec_free (by decide)) h
    · rw [e]
      simp only [List.length_append, List.length_cons, List.length_nil]
      omega
theorem linesworth_1 : True := by
  k_with "call builtin:str.partition" =>
    ((with_reducible show wpAny _ _ (call (Value.builtin "str.partition") [Value.str (S _) _, Value.str _ _]) _ _ _); (refine' part_S (x := Str.empty) ?q9hy ?F ?N ?q9sz ?q9hp ?_); (case q9hy => walk_at "mine lit"); (case F => k_asm); (case N => k_asm); (case q9sz => walk_at "mine size"); (case q9hp => with_reducible assumption); intro D' _ _ _ _ _ F' N' l1; (try k_lt l1); (try k_sweep))
  k_with "call builtin:str.split" =>
    ((with_reducible show wpAny _ _ (call (Value.builtin "str.split") [Value.str (S _) _, Value.str _ _]) _ _ _); (refine' split_S (x := Str.empty) ?q9hy ?F ?N ?q9sz ?q9hp ?_); (case q9hy => walk_at "mine lit"); (case F => k_asm); (case N => k_asm); (case q9sz => walk_at "mine size"); (case q9hp => with_reducible assumption); intro D' _ _ _ _ _ F' N' l1; (try k_lt l1); (try k_sweep))
  k_with "call type:int" =>
    ((with_reducible show wpAny _ _ (call (Value.type "int") [Value.str (S _) _]) _ _ _); (refine' int_S ?q9hn ?q9hl ?_); (case q9hn => with_reducible assumption); (case q9hl => with_reducible assumption); intro _ _)
  k_with "call builtin:str.index" =>
    ((with_reducible show wpAny _ _ (call (Value.builtin "str.index") [Value.str (S (List.take _ hexL)) _, Value.str (S _) _]) _ _ _); (refine' index_hex ?q9hn ?q9hd rfl ?_); (case q9hn => omega); (case q9hd => omega); intro _ _)
  k_with "subscriptTail" =>
    ((with_reducible show wpAny _ _ (subscriptTail _ (Expr.Slice none (some _) none _) (Value.str (Str.ofString "0123456789abcdef") _) (Value.ref _)) _ _ _); (with_reducible rename Fr _ _ _ _ => F'); (with_reducible rename News _ _ _ _ => N'); (refine' slice_hex (s := ⟨_, _, _, _, _⟩) F' N' ?q9a ?_); (case q9a => omega); intro _ _ _ _ _; (try k_sweep))
  k_with "mine to for" =>
    (repeat ((fail_if_success (with_reducible show wpAny _ _ (exec (Stmt.For _ _ _ _ _) _) _ _ _)); walk1))
  k_with "mine to iter" =>
    (repeat ((fail_if_success (with_reducible show wpAny _ _ (pyIter _) _ _ _)); walk1))
  k_with "TxPost" =>
    (dsimp only [TxPost])
  trivial
def Hide (P : Prop) : Prop := P
set_option maxHeartbeats 20000000 in
theorem worth_con {w : World} {mean : ExcName → Option Value} {mg mb : Str → Option Value} (l ds fs : List Nat) (r : Bool) (b p top bottom : Int) (t0 tt tb : Tok)
    (hb : 2 ≤ b) (hb' : b ≤ 16) (hl : l = showB b (ds.map sgn ++ tailT r fs) p) (hds : ∀ d ∈ ds, (d : Int) < b) (hd1 : 1 ≤ ds.length) (hd80 : ds.length ≤ 80)
    (hfs : ∀ d ∈ fs, (d : Int) < b) (hf80 : fs.length ≤ 80) (hr : (r = true ∧ 1 ≤ fs.length) ∨ (r = false ∧ fs = [] ∧ 0 ≤ p)) (hp : -400 ≤ p) (hp' : p ≤ 400)
    (hm1 : IntMulOk (((val b.toNat (ds ++ fs) : Nat) : Int) * b ^ (p - (fs.length : Int)).toNat) bottom) (hm2 : IntMulOk ((val b.toNat (ds ++ fs) : Nat) : Int) bottom) (hm3 : IntMulOk top (b ^ (-(p - (fs.length : Int))).toNat))
    (h1 : 0 ≤ p - (fs.length : Int) → ((val b.toNat (ds ++ fs) : Nat) : Int) * b ^ (p - (fs.length : Int)).toNat * bottom = top)
    (h2 : ¬ 0 ≤ p - (fs.length : Int) → ((val b.toNat (ds ++ fs) : Nat) : Int) * bottom = top * b ^ (-(p - (fs.length : Int))).toNat) :
    Con w mean mg mb 264 2 [.str (S l) t0, .bool r, .int top tt, .int bottom tb] (fun v ex => ex = [] ∧ v = .bool true) := by
  have hds16 : ∀ d ∈ ds, d < 16 := fun d hd => by have := hds d hd; omega
  have hfs16 : ∀ d ∈ fs, d < 16 := fun d hd => by have := hfs d hd; omega
  have free : ∀ c, (c < 48 ∨ (57 < c ∧ c < 97)) → c ≠ 46 → c ∉ ds.map sgn ++ tailT r fs := by
    intro c hc h46 hm
    rcases List.mem_append.mp hm with h | h
    · exact map_free hds16 hc h
    · unfold tailT at h
      split at h
      · rcases List.mem_cons.mp h with h | h
        · exact h46 h
        · exact map_free hfs16 hc h
      · cases h
  have hpe := part_expo (bt := bodyT b (ds.map sgn ++ tailT r fs)) (body_free (free 69 (by decide) (by decide))) hp hp'
  rw [← showB_body, ← hl] at hpe
  have hbs := body_split (free 35 (by decide) (by decide)) hb hb'
  have hV := val_small hb hb' (ds := ds ++ fs) (fun d hd => (List.mem_append.mp hd).elim (hds d) (hfs d)) (k := 160) (by rw [List.length_append]; omega)
  have hpw : 0 ≤ p - (fs.length : Int) → IntMulOk ((val b.toNat (ds ++ fs) : Nat) : Int) (b ^ (p - (fs.length : Int)).toNat) := fun h => by
    have hq := pow_le_two hb hb' (show (p - (fs.length : Int)).toNat ≤ 400 by omega)
    exact IntMulOk.of_bits (Nat.le_trans (bits_lt hV.1 hV.2) (by decide)) (Nat.le_trans (bits_lt hq.1 hq.2) (by decide))
  clear hV
  have hW46 : 46 ∉ ds.map sgn := map_free hds16 (by decide)
  obtain ⟨T, pt, hdot, hpt, hT, hTe, hTl⟩ : ∃ T pt : List Nat, Txt.partition (S (ds.map sgn ++ tailT r fs)) (S [46]) = (S (ds.map sgn), S pt, S T) ∧ decide (pt = [46]) = r ∧ decide (T ≠ []) = r ∧ T = fs.map sgn ∧ (tailT r fs).length ≤ 81 := by
    rcases hr with ⟨rfl, hf⟩ | ⟨rfl, rfl, _⟩
    · refine ⟨fs.map sgn, [46], part_at hW46, by decide, ?_, rfl, ?_⟩
      · refine decide_eq_true (fun e => ?_)
        have := congrArg List.length e
        simp at this
        rw [this] at hf; simp at hf
      · show (46 :: fs.map sgn).length ≤ 81
        rw [List.length_cons, List.length_map]; omega
    · refine ⟨[], [], ?_, by decide, by decide, by simp, by decide⟩
      show Txt.partition (S (ds.map sgn ++ [])) (S [46]) = _
      rw [List.append_nil]
      exact part_none hW46
  have hrp : r = false → 0 ≤ p := fun h => by
    rcases hr with ⟨e, _⟩ | ⟨_, _, h⟩
    · rw [h] at e; cases e
    · exact h
  have hTn : T.length = fs.length := by rw [hTe, List.length_map]
  rw [← hTn] at hm1 hm3 h1 h2 hpw hf80
  have hget : ∀ i n, (ds.map sgn ++ T)[i]? = some n → ∃ d, (ds ++ fs)[i]? = some d ∧ n = sgn d := fun i n h => by
    rw [hTe, ← List.map_append, List.getElem?_map] at h
    cases e : (ds ++ fs)[i]? with
    | none => rw [e] at h; cases h
    | some d => rw [e] at h; exact ⟨d, e, (Option.some.inj h).symm⟩
  have hlt : ∀ d ∈ ds ++ fs, (d : Int) < b := fun d hd => (List.mem_append.mp hd).elim (hds d) (hfs d)
  have htot : (ds.map sgn ++ T).length = (ds ++ fs).length := by rw [hTe, ← List.map_append, List.length_map]
  obtain ⟨al, hal⟩ : ∃ al, ds ++ fs = al := ⟨_, rfl⟩
  rw [hal] at hm1 hm2 h1 h2 hpw hget hlt htot
  obtain ⟨W, hW⟩ : ∃ W, ds.map sgn = W := ⟨_, rfl⟩
  have hWn : W.length = ds.length := by rw [← hW, List.length_map]
  rw [← hWn] at hd1 hd80
  rw [hW] at hdot hget htot hpe hbs hl
  have hll : l.length ≤ 300 := by
    rw [hl, showB_body, List.length_append]
    have e1 := expo_len hp hp'
    rcases hbs with ⟨_, e, _⟩ | ⟨_, _, _, _, _, e⟩
    · rw [e, List.length_append]; omega
    · rw [List.length_append] at e; omega
  obtain ⟨tx, htx⟩ : ∃ tx, W ++ tailT r fs = tx := ⟨_, rfl⟩
  have htl : tx.length ≤ 200 := by rw [← htx, List.length_append]; omega
  rw [htx] at hdot hpe hbs hl
  obtain ⟨bt, hbt⟩ : ∃ bt, bodyT b tx = bt := ⟨_, rfl⟩
  have hbl : bt.length ≤ 300 := by
    rcases hbs with ⟨_, e, _⟩ | ⟨_, _, _, _, _, e⟩
    · rw [← hbt, e]; omega
    · rw [← hbt]; omega
  rw [hbt] at hpe hbs
  have H1 : Hide (0 ≤ p - (T.length : Int) → ((val b.toNat al : Nat) : Int) * b ^ (p - (T.length : Int)).toNat * bottom = top) := h1
  have H2 : Hide (¬ 0 ≤ p - (T.length : Int) → ((val b.toNat al : Nat) : Int) * bottom = top * b ^ (-(p - (T.length : Int))).toNat) := h2
  have H3 : Hide (0 ≤ p - (T.length : Int) → IntMulOk ((val b.toNat al : Nat) : Int) (b ^ (p - (T.length : Int)).toNat)) := hpw
  clear h1 h2 hpw
  clear free hl htx hfs hds hds16 hfs16 hW46 hTl hr hal hW hTe hTn hbt
  unfold Con
  k_fill
  intro dp un gd cn cs ad ccd cl outer A₀ base h₀ L m news s Q E B F X0 N T' hk hdp hun hret
  refine wpAny_call ?_
  k_dflt cell_enter
  obtain ⟨mk, td, hpart, hmk⟩ : ∃ mk td, Txt.partition (S l) (S [69]) = (S bt, S mk, S td) ∧ ((p = 0 ∧ decide (mk = [69]) = false) ∨ (decide (mk = [69]) = true ∧ PySem.intText? (S td) = some p ∧ td.length ≤ 640)) := by
    rcases hpe with ⟨hp0, hpe⟩ | ⟨hp0, td, hpe, htd, htl2⟩
    · exact ⟨[], [], hpe, .inl ⟨hp0, by decide⟩⟩
    · exact ⟨[69], td, hpe, .inr ⟨by decide, htd, htl2⟩⟩
  clear hpe
  walk_at "mine next"
  (rename Fr _ _ _ _ => lF'); (rename News _ _ _ _ => lN')
  (with_unfolding_all refine' my_cut (σ := Tok) [_] (fun c => [(Str.ofString "power", .int p c)]) [] (fun _ => True) lF' lN' ?cut ?exit)
  case cut =>
    rcases hmk with ⟨hp0, hmk⟩ | ⟨hmk, htd, htl2⟩
    · subst hp0
      k_steps
      (try dsimp only)
      refine' MwEnd.intro _ ?F ?N ?led ?kk ?rr ?g
      walk_at "mine mw"
      case g => trivial
    · k_steps
      (try dsimp only)
      refine' MwEnd.intro _ ?F ?N ?led ?kk ?rr ?g
      walk_at "mine mw"
      case g => trivial
  case exit =>
  clear lF' lN' hmk hpart
  intro cT u1 h1' tk1 _ F1 N1
  dsimp only at F1 N1 ⊢
  walk_at "mine next"
  (rename Fr _ _ _ _ => lF'); (rename News _ _ _ _ => lN')
  (with_unfolding_all refine' my_cut (σ := Tok × Tok) [_] (fun c => [(Str.ofString "base", .int b c.1), (Str.ofString "body", .str (S tx) c.2)]) [Str.ofString "parts"] (fun _ => True) lF' lN' ?cut ?exit)
  case cut =>
    rcases hbs with ⟨hb0, hb1, hb2⟩ | ⟨hb0, hb2, hb3, hb4, hb5, hb6⟩
    · subst hb1 hb0
      k_steps
      (try dsimp only)
      refine' MwEnd.intro (_, _) ?F ?N ?led ?kk ?rr ?g
      walk_at "mine mw"
      case g => trivial
    · k_steps
      (try dsimp only)
      refine' MwEnd.intro (_, _) ?F ?N ?led ?kk ?rr ?g
      walk_at "mine mw"
      case g => trivial
  case exit =>
  clear lF' lN' hbs
  rintro ⟨cb, cy⟩ u2 h2' tk2 _ F2 N2
  dsimp only at F2 N2 ⊢
  walk_at "mine next"
  walk_at "mine next"
  (rename Fr _ _ _ _ => lF'); (rename News _ _ _ _ => lN')
  (with_unfolding_all refine' my_cut (σ := Unit) [_] (fun _ => []) [] (fun _ => True) lF' lN' ?cut ?exit)
  case cut =>
    cases r
    · have hrp := hrp rfl
      k_steps
      (try dsimp only)
      refine' MwEnd.intro () ?F ?N ?led ?kk ?rr ?g
      walk_at "mine mw"
      case g => trivial
    · clear hrp
      k_steps
      (try dsimp only)
      refine' MwEnd.intro () ?F ?N ?led ?kk ?rr ?g
      walk_at "mine mw"
      case g => trivial
  case exit =>
  clear lF' lN' hpt hT
  rintro ⟨⟩ u3 h3' tk3 _ F3 N3
  dsimp only at F3 N3 ⊢
  walk_at "mine to for"
  (rename Fr _ _ _ _ => lF'); (rename News _ _ _ _ => lN')
  (with_unfolding_all refine' For_invVF lF' ?k1 ?k2 ?_)
  case k1 => exact rfl
  case k2 => exact rfl
  walk_at "mine to iter"
  (rename Fr _ _ _ _ => lF'); (rename News _ _ _ _ => lN')
  (with_unfolding_all refine' iter_text (σ := Int × Tok) (fun c => [(Str.ofString "number", .int c.1 c.2)]) [Str.ofString "sign"] (fun i c => c.1 = ((val b.toNat (al.take i) : Nat) : Int)) (0, _) rfl lF' lN' ?kk ?hp0 ?turn ?done)
  case kk => kst_all
  case hp0 => exact rfl
  case turn =>
    clear lF' lN'
    rintro i ⟨v, tv⟩ n t u h9 tk9 own hn hc F9 N9
    dsimp only at hc F9 N9 ⊢
    obtain ⟨d, hd, rfl⟩ := hget i n hn
    have hdb := hlt d (List.mem_of_getElem? hd)
    have hsm := val_small hb hb' (ds := al.take i) (fun d hd => hlt d (List.mem_of_mem_take hd)) (k := 160) (by rw [List.length_take]; have := List.length_append (as := W) (bs := T); omega)
    rw [← hc] at hsm
    have hmv : IntMulOk v b := IntMulOk.of_bits (Nat.le_trans (bits_lt hsm.1 hsm.2) (by decide)) (Nat.le_trans (bits_lt (k := 5) (by omega) (by omega)) (by decide))
    clear hsm
    k_steps
    refine' MwEnd.intro (_, _) ?F ?N ?led ?kk ?rr ?g
    walk_at "mine mw"
    case g => exact hc ▸ val_take (by omega) hd
  case done =>
    clear lF' lN'
    rintro ⟨v, tv⟩ u h9 tk9 hv F9 N9
    dsimp only at hv F9 N9 ⊢
    rw [htot, List.take_length] at hv
    subst hv
    by_cases hpp : 0 ≤ p - (T.length : Int)
    · have H1' := H1 hpp
      have H3' := H3 hpp
      clear H1 H2 H3
      k_steps
      refine' ret0 hret ⟨rfl, congrArg Value.bool (beq_iff_eq.mpr H1')⟩ ?F ?N ?led
      case F => assumption
      case N => assumption
      case led => walk_at "mine sub"
    · have H2' := H2 hpp
      clear H1 H2 H3
      k_steps
      refine' ret0 hret ⟨rfl, congrArg Value.bool (beq_iff_eq.mpr H2')⟩ ?F ?N ?led
      case F => assumption
      case N => assumption
      case led => walk_at "mine sub"

end Mine

-- part ar4
namespace Mine
-- the number that the law builds
theorem num_bounds {b M fg a : Int} (hb : 2 ≤ b) (hM : 1 ≤ M) (h1 : 1 ≤ fg) (h2 : fg ≤ b - 1) (h3 : 0 ≤ a) (h4 : a ≤ 4) :
    0 < b - 1 ∧ 0 ≤ b ^ M.toNat - 1 ∧ 0 ≤ (b ^ M.toNat - 1).fdiv (b - 1) ∧ (b ^ M.toNat - 1).fdiv (b - 1) ≤ b ^ M.toNat - 1 ∧ 1 ≤ fg * ((b ^ M.toNat - 1).fdiv (b - 1)) + a ∧ fg * ((b ^ M.toNat - 1).fdiv (b - 1)) + a < b ^ (M.toNat + 2) := by
  have hp : b ≤ b ^ M.toNat := by
    have e : M.toNat = (M.toNat - 1) + 1 := by omega
    rw [e, Int.pow_succ]
    have := Int.pow_pos (n := b) (m := M.toNat - 1) (by omega)
    have h5 := Int.mul_le_mul_of_nonneg_right (show 1 ≤ b ^ (M.toNat - 1) by omega) (show 0 ≤ b by omega)
    omega
  have hq0 : 0 ≤ (b ^ M.toNat - 1).fdiv (b - 1) := by
    rw [Int.fdiv_eq_ediv_of_nonneg _ (by omega)]
    exact Int.ediv_nonneg (by omega) (by omega)
  have hq1 : 1 ≤ (b ^ M.toNat - 1).fdiv (b - 1) := by
    rw [Int.fdiv_eq_ediv_of_nonneg _ (by omega)]
    exact (Int.le_ediv_iff_mul_le (by omega)).mpr (by omega)
  have hq2 : (b ^ M.toNat - 1).fdiv (b - 1) * (b - 1) ≤ b ^ M.toNat - 1 := by
    rw [Int.fdiv_eq_ediv_of_nonneg _ (by omega)]
    exact Int.ediv_mul_le _ (by omega)
  obtain ⟨q, hq⟩ : ∃ q, (b ^ M.toNat - 1).fdiv (b - 1) = q := ⟨_, rfl⟩
  rw [hq] at hq0 hq1 hq2 ⊢
  have hm1 : fg * q ≤ (b - 1) * q := Int.mul_le_mul_of_nonneg_right h2 hq0
  have hm2 : 1 * q ≤ fg * q := Int.mul_le_mul_of_nonneg_right h1 hq0
  have hm3 : 1 * q ≤ (b - 1) * q := Int.mul_le_mul_of_nonneg_right (by omega) hq0
  have hm4 : (b - 1) * q = q * (b - 1) := Int.mul_comm _ _
  have e2 : b ^ (M.toNat + 2) = b ^ M.toNat * b * b := by rw [Int.pow_succ, Int.pow_succ]
  have hm5 : b ^ M.toNat * 2 ≤ b ^ M.toNat * b := Int.mul_le_mul_of_nonneg_left hb (by omega)
  have hm6 : b ^ M.toNat * b * 2 ≤ b ^ M.toNat * b * b := Int.mul_le_mul_of_nonneg_left hb (by omega)
  rw [e2]
  omega
def baseAt (k : Int) : Int := ([10, 2, 3, 5, 7, 16, 12] : List Int).getD k.toNat 0
theorem baseAt_in {k : Int} (h0 : 0 ≤ k) (h1 : k < 7) : baseAt k ∈ BS ∧ 2 ≤ baseAt k ∧ baseAt k ≤ 16 := by
  have key : ∀ k : Nat, k < 7 → baseAt (k : Int) ∈ BS ∧ 2 ≤ baseAt (k : Int) ∧ baseAt (k : Int) ≤ 16 := by decide
  have := key k.toNat (by omega)
  rwa [show ((k.toNat : Nat) : Int) = k by omega] at this
section
variable {prog : Program} {w : World} {A : Around} {E : Value → Shared → Prop} {s : Shared}
theorem ints_one {ws : List Value} {ms : List Int} {n : Nat} (h : IntsAre ws ms) (hl : ms.length = n + 1) : ∃ c t ws' ms', ws = .int c t :: ws' ∧ IntsAre ws' ms' ∧ ms'.length = n := by
  cases h with
  | nil => simp at hl
  | cons c t h' => exact ⟨c, t, _, _, rfl, h', by simpa using hl⟩
theorem ints_six {ws : List Value} {ms : List Int} (h : IntsAre ws ms) (hl : ms.length = 6) : ∃ c0 c1 c2 c3 c4 c5 t0 t1 t2 t3 t4 t5, ws = [.int c0 t0, .int c1 t1, .int c2 t2, .int c3 t3, .int c4 t4, .int c5 t5] := by
  obtain ⟨c0, t0, _, _, rfl, h, hl⟩ := ints_one h hl
  obtain ⟨c1, t1, _, _, rfl, h, hl⟩ := ints_one h hl
  obtain ⟨c2, t2, _, _, rfl, h, hl⟩ := ints_one h hl
  obtain ⟨c3, t3, _, _, rfl, h, hl⟩ := ints_one h hl
  obtain ⟨c4, t4, _, _, rfl, h, hl⟩ := ints_one h hl
  obtain ⟨c5, t5, _, ms, rfl, h, hl⟩ := ints_one h hl
  cases h with
  | nil => exact ⟨c0, c1, c2, c3, c4, c5, t0, t1, t2, t3, t4, t5, rfl⟩
  | cons => simp at hl
theorem subs_opsR {value slice : PySem.Expr} {o i : Value} {T id : String} {ops : List Value} {Q : Value → Shared → Prop} (hT : s.TypeIs o T)
    (hl : typeLookup (.type T) "__getitem__" = pure (some (.builtin id))) (h : wpAny (model prog w) A (getItem o i) Q E s)
    (hs : subscripted slice false o i = operate ops (getItem o i)) :
    wpAny (model prog w) A (subscriptTail value slice o i) Q E s := by
  unfold subscriptTail
  refine wpAny_bind ?_
  rw [getitemInPython_of_ne hT.not_modules]
  refine wpAny_bind (wpAny_specialOf hT hl ?_)
  have fin : wpAny (model prog w) A (subscripted slice false o i) (fun r s₃ => wpAny (model prog w) A (letTemporaryGo value o r >>= fun _ => pure r) Q E s₃) E s := by
    rw [hs]
    exact wpAny_operating (wpAny_mono h (fun r s₃ h₃ => wpAny_bind (wpAny_letTemporaryGo (wpAny_pure h₃))) fun _ _ x => x)
  first
    | exact wpAny_pure (wpAny_bind fin)
    | exact wpAny_bind (wpAny_pure (wpAny_bind fin))
    | exact wpAny_bind fin
theorem slice_six {h₀ : Heap} {L l : Addr} {m : Str → Option Value} {news : List (Addr × Obj)} {value slice : PySem.Expr} {vs : List Value} {ns : List Int} {t : Tok} {Q : Value → Shared → Prop}
    (F : Fr h₀ L s.heap m) (N : News h₀ L s.heap news) (hl : s.heap.IsList l vs.toArray) (hi : IntsAre vs ns) (h6 : 6 ≤ ns.length) (hz : ns.length ≤ 1000)
    (h : ∀ D h' c0 c1 c2 c3 c4 c5 t0 t1 t2 t3 t4 t5, Fr h₀ L h' m → News h₀ L h' ((D, PySem.W.listOf #[.int c0 t0, .int c1 t1, .int c2 t2, .int c3 t3, .int c4 t4, .int c5 t5] 0) :: news) → (∀ p ∈ news, p.1 < D) → Q (.ref D) { s with heap := h' })
    (hs : subscripted slice false (.ref l) (.ref s.heap.objs.size) = operate [.ref s.heap.objs.size, .ref l] (getItem (.ref l) (.ref s.heap.objs.size)) := by with_unfolding_all rfl) :
    wpAny (model prog w) A (subscriptTail value slice (.ref l) (.ref s.heap.objs.size)) Q E { s with heap := s.heap.push { cls := .type "slice", data := .fields #[.none, .int 6 t, .none] } } := by
  have hsz : vs.toArray.size ≤ sizeLine := by rw [List.size_toArray, hi.length, sizeLine_eq]; omega
  refine subs_opsR (Heap.IsList.typeIs (s := { s with heap := s.heap.push { cls := .type "slice", data := .fields #[.none, .int 6 t, .none] } }) (hl.push _)) list_getitem_lookup
    (wpAny_getItem_list_slice (hl.push _) (Heap.IsSliceOf.new ..) .none (.int 6 t) .none (by simp) ?_ hsz) hs
  have N1 := News.push (F.push { cls := .type "slice", data := .fields #[.none, .int 6 t, .none] }) (N.grown fun _ _ e => Heap.get?_push_of_some _ e) { cls := .type "list", data := .seq (slicePick vs.toArray none (some 6) none) }
  rw [Heap.size_push] at N1
  show Q (.ref (s.heap.push _).objs.size) _
  rw [Heap.size_push]
  have hw := kmk_upto hi (show (0 : Int) ≤ 6 by decide)
  have hlen : (ns.take (Int.toNat 6)).length = 6 := by rw [List.length_take]; show min 6 _ = 6; omega
  obtain ⟨ms, hms⟩ : ∃ ms, ns.take (Int.toNat 6) = ms := ⟨_, rfl⟩
  rw [hms] at hw hlen
  obtain ⟨a, ha⟩ : ∃ a, slicePick vs.toArray none (some 6) none = a := ⟨_, rfl⟩
  rw [ha] at N1 hw ⊢
  obtain ⟨ws⟩ := a
  have F1 := (F.push { cls := .type "slice", data := .fields #[.none, .int 6 t, .none] }).push { cls := .type "list", data := .seq ws.toArray }
  obtain ⟨c0, c1, c2, c3, c4, c5, t0, t1, t2, t3, t4, t5, rfl⟩ := ints_six hw hlen
  exact h _ _ c0 c1 c2 c3 c4 c5 t0 t1 t2 t3 t4 t5 F1 N1 fun p hp => Nat.lt_succ_of_lt (Heap.lt_size (N p hp).1)
end
theorem at0 {x0 x1 x2 x3 x4 x5 : Value} : #[x0, x1, x2, x3, x4, x5][Int.toNat 0]? = some x0 := rfl
theorem at1 {x0 x1 x2 x3 x4 x5 : Value} : #[x0, x1, x2, x3, x4, x5][Int.toNat 1]? = some x1 := rfl
theorem at2 {x0 x1 x2 x3 x4 x5 : Value} : #[x0, x1, x2, x3, x4, x5][Int.toNat 2]? = some x2 := rfl
theorem at3 {x0 x1 x2 x3 x4 x5 : Value} : #[x0, x1, x2, x3, x4, x5][Int.toNat 3]? = some x3 := rfl
theorem at4 {x0 x1 x2 x3 x4 x5 : Value} : #[x0, x1, x2, x3, x4, x5][Int.toNat 4]? = some x4 := rfl
theorem at5 {x0 x1 x2 x3 x4 x5 : Value} : #[x0, x1, x2, x3, x4, x5][Int.toNat 5]? = some x5 := rfl

end Mine

-- part lit
namespace Mine
-- what the text of show_literal is, and what the two readings find in it
def LitOf (r : Bool) (top bottom : Int) (l : List Nat) : Prop :=
  ∃ (b p : Int) (ds fs : List Nat), 2 ≤ b ∧ b ≤ 16 ∧ l = showB b (ds.map sgn ++ tailT r fs) p ∧ (∀ d ∈ ds, (d : Int) < b) ∧ 1 ≤ ds.length ∧ ds.length ≤ 80 ∧ (∀ d ∈ fs, (d : Int) < b) ∧ fs.length ≤ 80 ∧
    ((r = true ∧ 1 ≤ fs.length) ∨ (r = false ∧ fs = [] ∧ 0 ≤ p)) ∧ -400 ≤ p ∧ p ≤ 400 ∧
    (0 ≤ p - (fs.length : Int) → ((val b.toNat (ds ++ fs) : Nat) : Int) * b ^ (p - (fs.length : Int)).toNat * bottom = top) ∧
    (¬ 0 ≤ p - (fs.length : Int) → ((val b.toNat (ds ++ fs) : Nat) : Int) * bottom = top * b ^ (-(p - (fs.length : Int))).toNat)
theorem lit_whole {n : Int} {i : Nat} {x : List Nat} (hn : 0 ≤ n) (h : WholeAt n i x) : LitOf false n 1 x := by
  obtain ⟨b, hb, ha, rfl⟩ := h
  have hr := BS_range b (List.mem_of_getElem? hb)
  obtain ⟨ds, h1, h2, h3, h4, h5⟩ := whole_says hr.1 hn ha
  have hp := accW_pow ha
  refine ⟨b, powW b n, ds, [], hr.1, hr.2, by rw [h1]; simp [tailT], h2, h3, h4, by simp, by simp, .inr ⟨rfl, rfl, hp.2⟩, by omega, by omega, fun _ => ?_, fun h => absurd h (by simp; exact hp.2)⟩
  simp only [List.append_nil, List.length_nil, Int.natCast_zero, Int.sub_zero, Int.mul_one]
  exact h5
theorem whole_ten {n : Int} {i : Nat} {x : List Nat} (h : WholeAt n i x) (hm : ∀ j < i, ∀ c, BS[j]? = some c → ¬ accW c n) (hn : n < 10 ^ 80) : x = decT n := by
  have ht := ten_first hn
  have hi : i = 0 := by
    rcases Nat.eq_zero_or_pos i with h0 | h0
    · exact h0
    · exact absurd ht.1 (hm 0 h0 10 rfl)
  subst hi
  obtain ⟨b, hb, ha, rfl⟩ := h
  obtain rfl : 10 = b := Option.some.inj hb
  have hp : powW 10 n = 0 := by
    unfold powW
    have := maxI_spec 0 (((figT n 10 1).length : Int) - 80)
    omega
  rw [hp, List.take_of_length_le ht.2, showB_eq]
  simp [expoT, decT]
theorem lit_of_real {top bottom : Int} {x : List Nat} (ht : 0 < top) (hbo : 0 < bottom) (h : RealAt top bottom x) : LitOf true top bottom x := by
  obtain ⟨b, hb, p, n', p', hp, hs, rfl, hx⟩ := h
  have hr := BS_range b hb
  obtain ⟨ds, fs, q, h1, h2, h3, h4, h5, h6, h7, h8, h9, h10, h11⟩ := real_says hr.1 ht hbo hp hs hx
  exact ⟨b, q, ds, fs, hr.1, hr.2, h1, h2, h4, h5, h3, h7, .inl ⟨rfl, h6⟩, h8, h9, h10, h11⟩
theorem ok_mul {a c : Int} (h0 : 0 ≤ a) (h1 : a < 2 ^ 4000) (h2 : 0 ≤ c) (h3 : c < 2 ^ 4000) : IntMulOk a c :=
  IntMulOk.of_bits (Nat.le_trans (bits_lt h0 h1) (by decide)) (Nat.le_trans (bits_lt h2 h3) (by decide))
theorem two_lt {a : Int} {k : Nat} (h : a < 2 ^ k) (hk : k ≤ 4000) : a < 2 ^ 4000 := Int.lt_of_lt_of_le h (by
  have h1 : (2 : Nat) ^ k ≤ 2 ^ 4000 := Nat.pow_le_pow_right (by decide) hk
  have h2 : ((2 ^ k : Nat) : Int) = 2 ^ k := by simp
  have h3 : ((2 ^ 4000 : Nat) : Int) = 2 ^ 4000 := by simp
  rw [← h2, ← h3]; exact Int.ofNat_le.mpr h1)
theorem lit_worth {w : World} {mean : ExcName → Option Value} {mg mb : Str → Option Value} {r : Bool} {top bottom : Int} {l : List Nat} (h : LitOf r top bottom l) (ht : 0 ≤ top) (ht' : top < 2 ^ 1500) (hb0 : 0 < bottom) (hb1 : bottom < 2 ^ 1500) (t0 tt tb : Tok) :
    Con w mean mg mb 264 2 [.str (S l) t0, .bool r, .int top tt, .int bottom tb] (fun v ex => ex = [] ∧ v = .bool true) := by
  obtain ⟨b, p, ds, fs, hb, hb', hl, hds, hd1, hd80, hfs, hf80, hr, hp, hp', h1, h2⟩ := h
  have hU := val_small hb hb' (ds := ds ++ fs) (k := 160) (fun d hd => (List.mem_append.mp hd).elim (hds d) (hfs d)) (by rw [List.length_append]; omega)
  have hq1 := pow_le_two hb hb' (show (p - (fs.length : Int)).toNat ≤ 400 by omega)
  have hq2 := pow_le_two hb hb' (show (-(p - (fs.length : Int))).toNat ≤ 480 by omega)
  have hm := mul_lt_two hU.1 hU.2 hq1.1 hq1.2
  exact worth_con l ds fs r b p top bottom t0 tt tb hb hb' hl hds hd1 hd80 hfs hf80 hr hp hp'
    (ok_mul hm.1 (two_lt hm.2 (by decide)) (by omega) (two_lt hb1 (by decide))) (ok_mul hU.1 (two_lt hU.2 (by decide)) (by omega) (two_lt hb1 (by decide)))
    (ok_mul ht (two_lt ht' (by decide)) hq2.1 (two_lt hq2.2 (by decide))) h1 h2
theorem lit_head {r : Bool} {b p : Int} {ds fs : List Nat} (hb : 2 ≤ b) (hds : ∀ d ∈ ds, (d : Int) < b) (hd1 : 1 ≤ ds.length) : ∃ d q, showB b (ds.map sgn ++ tailT r fs) p = sgn d :: q ∧ d < 10 := by
  rw [showB_eq]
  by_cases h10 : b = 10
  · rw [if_pos h10]
    cases ds with
    | nil => simp at hd1
    | cons d q =>
      have := hds d (List.mem_cons_self ..)
      exact ⟨d, q.map sgn ++ tailT r fs ++ expoT p, rfl, by omega⟩
  · rw [if_neg h10, decT_eq]
    have g1 := decD_lt b
    have g2 := decD_ge b
    cases hD : decD b with
    | nil => rw [hD] at g2; simp at g2
    | cons d q =>
      have := g1 d (by rw [hD]; exact List.mem_cons_self ..)
      exact ⟨d, q.map sgn ++ ([35] ++ (ds.map sgn ++ tailT r fs ++ [35])) ++ expoT p, rfl, by omega⟩
theorem lit_len {r : Bool} {b p : Int} {ds fs : List Nat} (hb : 2 ≤ b) (hb' : b ≤ 16) (hd80 : ds.length ≤ 80) (hf80 : fs.length ≤ 80) (hp : -400 ≤ p) (hp' : p ≤ 400) : (showB b (ds.map sgn ++ tailT r fs) p).length ≤ 1000 := by
  have e1 := expo_len hp hp'
  have e2 : (decD b).length ≤ 6 := decD_le (by omega)
  have e3 : (tailT r fs).length ≤ 81 := by cases r <;> simp [tailT]; omega
  rw [showB_eq]
  split
  · simp only [List.length_append, List.length_map]; omega
  · rw [decT_eq]
    simp only [List.length_append, List.length_map, List.length_cons, List.length_nil]; omega
theorem lit_toks_int {w : World} {mean : ExcName → Option Value} {mg mb : Str → Option Value} {top : Int} {l : List Nat} (h : LitOf false top 1 l) (ht : 0 ≤ top) (t0 : Tok) :
    Con w mean mg mb 200 6 [.str (S l) t0] (IntList top) := by
  obtain ⟨b, p, ds, fs, hb, hb', hl, hds, hd1, hd80, hfs, hf80, hr, hp, hp', h1, h2⟩ := h
  rcases hr with ⟨hr, _⟩ | ⟨_, rfl, hp0⟩
  · cases hr
  obtain ⟨d, q, hd, hd10⟩ := lit_head (r := false) (p := p) (fs := []) hb hds hd1
  have hlen := lit_len (r := false) hb hb' hd80 hf80 hp hp'
  rw [← hl] at hd hlen
  have hv := h1 (by simp; exact hp0)
  simp only [List.length_nil, Int.natCast_zero, Int.sub_zero, Int.mul_one] at hv
  refine toks_int l q d top t0 hlen hd hd10 (fun t0 ti tn => ?_)
  have C := numtok_con (w := w) (mean := mean) (mg := mg) (mb := mb) l ds [] false b p 1 _ 0 0 t0 ti tn hb hb' hl hds hd1 hd80 hfs hf80 (.inr ⟨rfl, rfl, hp0⟩) hp hp' rfl (fun h => by cases h) (fun h => by cases h) (by decide +kernel) (by decide +kernel) (by decide)
  have e : NumTok false ((val b.toNat (ds ++ []) : Nat) : Int) b p 0 0 l.length 1 = IntTok (((val b.toNat (ds ++ []) : Nat) : Int) * b ^ p.toNat) l.length 1 := rfl
  rw [e, hv] at C
  exact C
theorem lit_toks_real {w : World} {mean : ExcName → Option Value} {mg mb : Str → Option Value} {top bottom : Int} {l : List Nat} (h : LitOf true top bottom l) (ht : 0 ≤ top) (ht' : top < 2 ^ 1500) (hb0 : 0 < bottom) (hb1 : bottom < 2 ^ 1500) (hg : Int.gcd top bottom = 1) (t0 : Tok) :
    Con w mean mg mb 200 6 [.str (S l) t0] (RealList top bottom) := by
  obtain ⟨b, p, ds, fs, hb, hb', hl, hds, hd1, hd80, hfs, hf80, hr, hp, hp', h1, h2⟩ := h
  obtain ⟨d, q, hd, hd10⟩ := lit_head (r := true) (p := p) (fs := fs) hb hds hd1
  have hlen := lit_len (r := true) hb hb' hd80 hf80 hp hp'
  rw [← hl] at hd hlen
  refine toks_real l q d top bottom t0 hlen hd hd10 (fun t0 ti tn => ?_)
  have e7 : (2 : Int) ^ 1500 ≤ 10 ^ 700 := by decide +kernel
  refine numtok_con (w := w) (mean := mean) (mg := mg) (mb := mb) l ds fs true b p 1 _ top bottom t0 ti tn hb hb' hl hds hd1 hd80 hfs hf80 hr hp hp' rfl (fun _ hlt => ?_) (fun _ hlt => ?_) (by omega) (by omega) ht
  · have e := h2 (by omega)
    rw [show (-(p - (fs.length : Int))).toNat = ((fs.length : Int) - p).toNat by omega] at e
    exact lowest (Int.pow_pos (by omega)) ht hb0 hg e
  · exact lowest_one hb0 hg (h1 (by omega))
theorem whole_con2 {w : World} {mean : ExcName → Option Value} {mg mb : Str → Option Value} (n : Int) (hn : 0 ≤ n) (hn' : n < 2 ^ 1500) (H : ∃ b ∈ BS, accW b n) (tn : Tok) :
    Con w mean mg mb 222 3 [.int n tn] (fun v ex => ex = [] ∧ ∃ x t, v = .str (S x) t ∧ LitOf false n 1 x ∧ (n < 10 ^ 80 → x = decT n)) := by
  have C := whole_con (w := w) (mean := mean) (mg := mg) (mb := mb) n tn hn (fun b hb => Nat.le_trans (figT_len_le (k := 1500) hb hn' (by decide)) (by decide)) H
  unfold Con at C ⊢
  intro dp un gd cn cs a ccd cl outer A₀ base h₀ L m news s Q E h1 h2 h3 h4 h5 h6 h7 h8 ret
  refine C dp un gd cn cs a ccd cl outer A₀ base h₀ L m news s Q E h1 h2 h3 h4 h5 h6 h7 h8 (fun v ex h' tk' hp => ret v ex h' tk' ?_)
  obtain ⟨hex, i, x, t, hv, hw, hm⟩ := hp
  exact ⟨hex, x, t, hv, lit_whole hn hw, whole_ten hw hm⟩
theorem real_con2 {w : World} {mean : ExcName → Option Value} {mg mb : Str → Option Value} (top bottom : Int) (ht : 0 < top) (ht' : top < 2 ^ 1500) (hb0 : 0 < bottom) (hb1 : bottom < 2 ^ 1500) (H : ∃ b ∈ BS, GoodR top bottom b) (tt tb : Tok) :
    Con w mean mg mb 236 4 [.int top tt, .int bottom tb] (fun v ex => ex = [] ∧ ∃ x t, v = .str (S x) t ∧ LitOf true top bottom x) := by
  have C := real_con (w := w) (mean := mean) (mg := mg) (mb := mb) top bottom tt tb (Int.le_of_lt ht) ht' hb0 hb1 H
  unfold Con at C ⊢
  intro dp un gd cn cs a ccd cl outer A₀ base h₀ L m news s Q E h1 h2 h3 h4 h5 h6 h7 h8 ret
  refine C dp un gd cn cs a ccd cl outer A₀ base h₀ L m news s Q E h1 h2 h3 h4 h5 h6 h7 h8 (fun v ex h' tk' hp => ret v ex h' tk' ?_)
  obtain ⟨hex, x, t, hv, hw⟩ := hp
  exact ⟨hex, x, t, hv, lit_of_real ht hb0 hw⟩
-- what str says of a number
theorem toDigits_digs (n : Nat) : (Nat.toDigits 10 n).map Char.toNat = (digs 10 n 1).map sgn := by
  have key : ∀ d : Nat, d < 10 → d.digitChar.toNat = sgn d := by decide
  induction n using Nat.strongRecOn with
  | _ n ih =>
    rw [Nat.toDigits_eq_if (by decide), digs_step (by decide) (.inr (by decide))]
    by_cases h : n < 10
    · rw [if_pos h, show n / 10 = 0 by omega, show n % 10 = n by omega, Nat.sub_self, digs_nil]
      simp [key n h]
    · have e : digs 10 (n / 10) (1 - 1) = digs 10 (n / 10) 1 :=
        (digs_step (b := 10) (n := n / 10) (l := 0) (by decide) (.inl (by omega))).trans (digs_step (b := 10) (n := n / 10) (l := 1) (by decide) (.inl (by omega))).symm
      rw [if_neg h, e, List.map_append, List.map_append, ih (n / 10) (by omega)]
      simp [key (n % 10) (by omega)]
theorem str_dec {n : Int} (h : 0 ≤ n) : Str.ofString (toString n) = S (decT n) := by
  obtain ⟨m, rfl⟩ := Int.eq_ofNat_of_zero_le h
  rw [show toString ((m : Nat) : Int) = Nat.repr m from rfl, Nat.repr_eq_ofList_toDigits, Str.ofString_eq_toList, String.toList_ofList, toDigits_digs]
  rfl
section
variable {prog : Program} {w : World} {A : Around} {E : Value → Shared → Prop} {s : Shared} {t : Tok} {Q : Value → Shared → Prop}
theorem str_I {n : Int} (h0 : 0 ≤ n) (h1 : n < 2 ^ 1500) (h : ∀ t', Q (.str (S (decT n)) t') { s with toks := s.toks + 1 }) : wpAny (model prog w) A (call (.type "str") [.int n t]) Q E s := by
  refine P.str_of_int (shown (N := 2 ^ 1920) (by omega) (Int.lt_trans h1 (by decide +kernel)) (Int.le_refl _)) ?_
  have e := str_dec h0
  exact e ▸ h _
end
def LawEnd (s₁ : Shared) (fl : Flow) (s' : Shared) : Prop := ∃ h' tk' m', fl = Flow.ret (.bool true) ∧ s' = ⟨h', s₁.gens, s₁.drawn, tk', s₁.os⟩ ∧ Fr s₁.heap s₁.heap.objs.size h' m'

end Mine

-- part law1
namespace Mine
/-- a contract of a def that is handed an object of the ledger -/
def ConN (D0 : Addr) (o0 : Obj) (w : World) (mean : ExcName → Option Value) (mg mb : Str → Option Value) (f : Addr) (k : Nat) (vs : List Value) (Post : Value → List (Addr × Obj) → Prop) : Prop :=
  ∀ (dp un : Nat) (gd : Option (List Code)) (cn : Str) (cs : Scope) (a : Addr) (ccd : Value) (cl : List (Str × Addr)) (outer : List Env) (A₀ : Around) (base h₀ : Heap) (L : Addr) (m : Str → Option Value) (news : List (Addr × Obj)) (s : Shared) (Q E : Value → Shared → Prop),
    Below A₀ base outer h₀ → Fr h₀ L s.heap m → (KW w.params).In h₀ → News h₀ L s.heap news → Top VW (looseW VW restN) mean mg mb h₀ → cs.kind = .function →
    dp + k < recursionLimit → un + 8 * k < cLine → (D0, o0) ∈ news →
    (∀ v ex h' tk', Post v ex → (∀ p ∈ news, ∀ q ∈ ex, p.1 < q.1) → Fr h₀ L h' m → News h₀ L h' (ex ++ news) → Q v { s with heap := h', toks := tk' }) →
    wpAny (model PySem.Challenge.rw_pp0009_01.row.prog w) (ktrTop dp un gd cn cs L a ccd cl outer) (call (.ref f) vs) Q E s
theorem ConN.use {D0 : Addr} {o0 : Obj} {w : World} {mean : ExcName → Option Value} {mg mb : Str → Option Value} {f : Addr} {k : Nat} {vs : List Value} {Post : Value → List (Addr × Obj) → Prop} {dp un : Nat} {gd : Option (List Code)} {cn : Str} {cs : Scope} {a : Addr} {ccd : Value} {cl : List (Str × Addr)} {outer : List Env} {A₀ : Around} {base h₀ : Heap} {L : Addr} {m : Str → Option Value} {news : List (Addr × Obj)} {s : Shared} {Q E : Value → Shared → Prop}
    (C : ConN D0 o0 w mean mg mb f k vs Post) (B : Below A₀ base outer h₀) (F : Fr h₀ L s.heap m) (X : (KW w.params).In h₀) (N : News h₀ L s.heap news) (T : Top VW (looseW VW restN) mean mg mb h₀) (hk : cs.kind = .function)
    (hd : dp + k < recursionLimit) (hu : un + 8 * k < cLine) (hm : (D0, o0) ∈ news)
    (ret : ∀ v ex h' tk', Post v ex → (∀ p ∈ news, ∀ q ∈ ex, p.1 < q.1) → Fr h₀ L h' m → News h₀ L h' (ex ++ news) → Q v { s with heap := h', toks := tk' }) :
    wpAny (model PySem.Challenge.rw_pp0009_01.row.prog w) (ktrTop dp un gd cn cs L a ccd cl outer) (call (.ref f) vs) Q E s :=
  C _ _ _ _ _ _ _ _ _ _ _ _ _ _ _ _ _ _ B F X N T hk hd hu hm ret
theorem lineslaw1_1 : True := by
  k_with "subscriptTail" =>
    ((with_reducible show wpAny _ _ (subscriptTail _ _ (Value.ref _) (Value.int _ _)) _ _ _); (refine' item_list (News.isList (by with_reducible assumption) (by first | with_reducible assumption | exact List.mem_cons_of_mem _ (by with_reducible assumption))) (by decide) (by decide) (by with_reducible first | exact at0 | exact at1 | exact at2 | exact at3 | exact at4 | exact at5) ?_))
  trivial
def NumPost (r : Bool) (top bottom : Int) (v : Value) (ex : List (Addr × Obj)) : Prop :=
  ∃ D t1 t2, v = .ref D ∧ ex = [(D, { cls := .type "tuple", data := .seq [.bool r, .int top t1, .int bottom t2].toArray })]
set_option maxHeartbeats 8000000 in
theorem number_con {w : World} {mean : ExcName → Option Value} {mg mb : Str → Option Value} (D0 : Addr) (c0 c1 c2 c3 c4 c5 b M Nn P top bottom : Int) (t0 t1 t2 t3 t4 t5 : Tok)
    (hb : baseAt (c1.fmod 7) = b) (hM1 : c0.fmod 2 = 1 → 1 + c2.fmod 120 = M) (hM2 : c0.fmod 2 ≠ 1 → 1 + c2.fmod 30 = M)
    (hN : (1 + c3.fmod (b - 1)) * ((b ^ M.toNat - 1).fdiv (b - 1)) + c4.fmod 5 = Nn) (hP1 : c0.fmod 2 = 1 → c5.fmod 300 - 170 = P) (hP2 : c0.fmod 2 ≠ 1 → c5.fmod 91 = P)
    (h1 : 0 ≤ P → Nn * b ^ P.toNat = top ∧ 1 = bottom) (h2 : ¬ 0 ≤ P → Nn.fdiv (Int.gcd Nn (b ^ (-P).toNat)) = top ∧ (b ^ (-P).toNat).fdiv (Int.gcd Nn (b ^ (-P).toNat)) = bottom) :
    ConN D0 (PySem.W.listOf #[.int c0 t0, .int c1 t1, .int c2 t2, .int c3 t3, .int c4 t4, .int c5 t5] 0) w mean mg mb 257 3 [.ref D0] (NumPost (decide (c0.fmod 2 = 1)) top bottom) := by
  have b0 := fmod_lo c1 (n := 7) (by decide)
  have b1 := fmod_hi c1 (n := 7) (by decide)
  have hb2 := (baseAt_in b0 b1).2
  rw [hb] at hb2
  obtain ⟨hb2, hb16⟩ := hb2
  have f0 := fmod_lo c3 (n := b - 1) (by omega)
  have f1 := fmod_hi c3 (n := b - 1) (by omega)
  have a0 := fmod_lo c4 (n := 5) (by decide)
  have a1 := fmod_hi c4 (n := 5) (by decide)
  have hMb : 1 ≤ M ∧ M ≤ 120 := by
    have := fmod_lo c2 (n := 120) (by decide)
    have := fmod_hi c2 (n := 120) (by decide)
    have := fmod_lo c2 (n := 30) (by decide)
    have := fmod_hi c2 (n := 30) (by decide)
    by_cases h : c0.fmod 2 = 1
    · have := hM1 h; omega
    · have := hM2 h; omega
  have hPb : -170 ≤ P ∧ P ≤ 129 := by
    have := fmod_lo c5 (n := 300) (by decide)
    have := fmod_hi c5 (n := 300) (by decide)
    have := fmod_lo c5 (n := 91) (by decide)
    have := fmod_hi c5 (n := 91) (by decide)
    by_cases h : c0.fmod 2 = 1
    · have := hP1 h; omega
    · have := hP2 h; omega
  obtain ⟨g1, g2, g3, g4, g5, g6⟩ := num_bounds (M := M) (a := c4.fmod 5) (fg := 1 + c3.fmod (b - 1)) hb2 hMb.1 (by omega) (by omega) a0 (by omega)
  rw [hN] at g5 g6
  have hq := pow_le_two hb2 hb16 (show M.toNat + 2 ≤ 122 by omega)
  have hq' := pow_le_two hb2 hb16 (show M.toNat ≤ 122 by omega)
  have hm : IntMulOk (1 + c3.fmod (b - 1)) ((b ^ M.toNat - 1).fdiv (b - 1)) := IntMulOk.of_bits (Nat.le_trans (bits_lt (k := 6) (by omega) (by omega)) (by decide)) (Nat.le_trans (bits_lt g3 (Int.lt_of_le_of_lt g4 (Int.lt_of_le_of_lt (Int.sub_le_self _ (by decide)) hq'.2))) (by decide))
  have hl1 := log_of (a := b - 1) (k := 9000) g1 (Int.lt_trans (show b - 1 < 2 ^ 5 by omega) (by decide +kernel))
  have hN2 : Nn < 2 ^ (4 * 122 + 1) := Int.lt_trans g6 hq.2
  have hmP : IntMulOk Nn (b ^ P.toNat) := by
    have hq := pow_le_two hb2 hb16 (show P.toNat ≤ 129 by omega)
    exact IntMulOk.of_bits (Nat.le_trans (bits_lt (by omega) hN2) (by decide)) (Nat.le_trans (bits_lt hq.1 hq.2) (by decide))
  have hN0 : 0 ≤ Nn := by omega
  have hlow : (0 : Int) < b ^ (-P).toNat := Int.pow_pos (by omega)
  have hg0 : (0 : Int) < (Int.gcd Nn (b ^ (-P).toNat) : Nat) := by
    have : Int.gcd Nn (b ^ (-P).toNat) ≠ 0 := fun e => by have := (Int.gcd_eq_zero_iff.mp e).1; omega
    omega
  have hgl : ((Int.gcd Nn (b ^ (-P).toNat) : Nat) : Int).natAbs.log2 < 9000 := log_of (k := 9000) hg0 (Int.lt_trans (Int.lt_of_le_of_lt (Int.le_of_dvd (by omega) (Int.gcd_dvd_left ..)) hN2) (by decide +kernel))
  clear hq hq' g2 g3 g4 g6 hN2
  unfold ConN
  k_fill
  intro dp un gd cn cs ad ccd cl outer A₀ base h₀ L m news s Q E B F X0 N T hk hdp hun hD0 hret
  refine wpAny_call ?_
  k_dflt cell_enter
  walk_at "mine next"
  (rename Fr _ _ _ _ => lF'); (rename News _ _ _ _ => lN')
  (with_unfolding_all refine' my_cut (σ := Int × Tok) [_] (fun c => [(Str.ofString "base", .int c.1 c.2)]) [] (fun c => c.1 = b) lF' lN' ?cut ?exit)
  case cut =>
    clear h1 h2 hm hmP hN hP1 hP2 hM1 hM2
    k_steps
    (try dsimp only)
    refine' MwEnd.intro (_, _) ?F ?N ?led ?kk ?rr ?g
    walk_at "mine mw"
    case g => exact hb
  case exit =>
  clear lF' lN' hb
  rintro ⟨v, tb⟩ u0 h0' tk0 hv F0 N0
  dsimp only at hv F0 N0 ⊢
  replace hv := hv.symm
  subst hv
  (rename Fr _ _ _ _ => lF'); (rename News _ _ _ _ => lN')
  (with_unfolding_all refine' my_cut (σ := Int × Tok) [_] (fun c => [(Str.ofString "many", .int c.1 c.2)]) [] (fun c => c.1 = M) lF' lN' ?cut ?exit)
  case cut =>
    clear h1 h2 hm hmP hN hP1 hP2
    k_steps
    · (try dsimp only)
      refine' MwEnd.intro (_, _) ?F ?N ?led ?kk ?rr ?g
      walk_at "mine mw"
      (case g => first | exact hM1 (by assumption) | exact hM2 (by assumption))
    · (try dsimp only)
      refine' MwEnd.intro (_, _) ?F ?N ?led ?kk ?rr ?g
      walk_at "mine mw"
      (case g => first | exact hM1 (by assumption) | exact hM2 (by assumption))
  case exit =>
  clear lF' lN' hM1 hM2
  rintro ⟨v, tv⟩ u1 h1' tk1 hv F1 N1
  dsimp only at hv F1 N1 ⊢
  replace hv := hv.symm
  subst hv
  (rename Fr _ _ _ _ => lF'); (rename News _ _ _ _ => lN')
  (with_unfolding_all refine' my_cut (σ := Int × Tok) [_, _] (fun c => [(Str.ofString "number", .int c.1 c.2)]) [Str.ofString "figure"] (fun c => c.1 = Nn) lF' lN' ?cut ?exit)
  case cut =>
    clear h1 h2 hmP hP1 hP2
    k_steps
    (try dsimp only)
    refine' MwEnd.intro (_, _) ?F ?N ?led ?kk ?rr ?g
    walk_at "mine mw"
    case g => exact hN
  case exit =>
  clear lF' lN' hN hm
  rintro ⟨v, tv2⟩ u2 h2' tk2 hv F2 N2
  dsimp only at hv F2 N2 ⊢
  replace hv := hv.symm
  subst hv
  (rename Fr _ _ _ _ => lF'); (rename News _ _ _ _ => lN')
  (with_unfolding_all refine' my_cut (σ := Int × Tok) [_] (fun c => [(Str.ofString "power", .int c.1 c.2)]) [] (fun c => c.1 = P) lF' lN' ?cut ?exit)
  case cut =>
    clear h1 h2 hmP
    k_steps
    · (try dsimp only)
      refine' MwEnd.intro (_, _) ?F ?N ?led ?kk ?rr ?g
      walk_at "mine mw"
      (case g => first | exact hP1 (by assumption) | exact hP2 (by assumption))
    · (try dsimp only)
      refine' MwEnd.intro (_, _) ?F ?N ?led ?kk ?rr ?g
      walk_at "mine mw"
      (case g => first | exact hP1 (by assumption) | exact hP2 (by assumption))
  case exit =>
  clear lF' lN' hP1 hP2
  rintro ⟨v, tv3⟩ u3 h3' tk3 hv F3 N3
  dsimp only at hv F3 N3 ⊢
  replace hv := hv.symm
  subst hv
  by_cases hpp : 0 ≤ P
  · obtain ⟨e1, e2⟩ := h1 hpp
    subst e1 e2
    clear h1 h2
    k_steps
    (refine' ret1 hret ⟨_, _, _, rfl, rfl⟩ ?F ?N ?D ?led ?lt)
    case F => assumption
    case N => assumption
    case D => k_mem
    case led => walk_at "mine sub"
    case lt => assumption
  · obtain ⟨e1, e2⟩ := h2 hpp
    subst e1 e2
    clear h1 h2
    k_steps
    (refine' ret1 hret ⟨_, _, _, rfl, rfl⟩ ?F ?N ?D ?led ?lt)
    case F => assumption
    case N => assumption
    case D => k_mem
    case led => walk_at "mine sub"
    case lt => assumption

end Mine

-- part ar5
namespace Mine
-- from the cells to the number
theorem law_nums (c0 c1 c2 c3 c4 c5 : Int) : ∃ b M Nn P top bottom : Int,
    baseAt (c1.fmod 7) = b ∧ (c0.fmod 2 = 1 → 1 + c2.fmod 120 = M) ∧ (c0.fmod 2 ≠ 1 → 1 + c2.fmod 30 = M) ∧
    (1 + c3.fmod (b - 1)) * ((b ^ M.toNat - 1).fdiv (b - 1)) + c4.fmod 5 = Nn ∧ (c0.fmod 2 = 1 → c5.fmod 300 - 170 = P) ∧ (c0.fmod 2 ≠ 1 → c5.fmod 91 = P) ∧
    (0 ≤ P → Nn * b ^ P.toNat = top ∧ 1 = bottom) ∧ (¬ 0 ≤ P → Nn.fdiv (Int.gcd Nn (b ^ (-P).toNat)) = top ∧ (b ^ (-P).toNat).fdiv (Int.gcd Nn (b ^ (-P).toNat)) = bottom) ∧
    0 < top ∧ top < 2 ^ 1500 ∧ 0 < bottom ∧ bottom < 2 ^ 1500 ∧ Int.gcd top bottom = 1 ∧
    (c0.fmod 2 ≠ 1 → bottom = 1 ∧ ∃ b ∈ BS, accW b top) ∧ (c0.fmod 2 = 1 → ∃ b ∈ BS, GoodR top bottom b) := by
  obtain ⟨b, hb⟩ : ∃ b, baseAt (c1.fmod 7) = b := ⟨_, rfl⟩
  have hbi := baseAt_in (fmod_lo c1 (n := 7) (by decide)) (fmod_hi c1 (n := 7) (by decide))
  rw [hb] at hbi
  obtain ⟨hbB, hb2, hb16⟩ := hbi
  obtain ⟨M, hM1, hM2, hMa, hMb, hMc⟩ : ∃ M, (c0.fmod 2 = 1 → 1 + c2.fmod 120 = M) ∧ (c0.fmod 2 ≠ 1 → 1 + c2.fmod 30 = M) ∧ 1 ≤ M ∧ M ≤ 120 ∧ (c0.fmod 2 ≠ 1 → M ≤ 30) := by
    have := fmod_lo c2 (n := 120) (by decide)
    have := fmod_hi c2 (n := 120) (by decide)
    have := fmod_lo c2 (n := 30) (by decide)
    have := fmod_hi c2 (n := 30) (by decide)
    by_cases h : c0.fmod 2 = 1
    · exact ⟨_, fun _ => rfl, fun h' => absurd h h', by omega, by omega, fun h' => absurd h h'⟩
    · exact ⟨_, fun h' => absurd h' h, fun _ => rfl, by omega, by omega, fun _ => by omega⟩
  obtain ⟨P, hP1, hP2, hPa, hPb, hPc⟩ : ∃ P, (c0.fmod 2 = 1 → c5.fmod 300 - 170 = P) ∧ (c0.fmod 2 ≠ 1 → c5.fmod 91 = P) ∧ -170 ≤ P ∧ P ≤ 129 ∧ (c0.fmod 2 ≠ 1 → 0 ≤ P ∧ P ≤ 90) := by
    have := fmod_lo c5 (n := 300) (by decide)
    have := fmod_hi c5 (n := 300) (by decide)
    have := fmod_lo c5 (n := 91) (by decide)
    have := fmod_hi c5 (n := 91) (by decide)
    by_cases h : c0.fmod 2 = 1
    · exact ⟨_, fun _ => rfl, fun h' => absurd h h', by omega, by omega, fun h' => absurd h h'⟩
    · exact ⟨_, fun h' => absurd h' h, fun _ => rfl, by omega, by omega, fun _ => by omega⟩
  have f0 := fmod_lo c3 (n := b - 1) (by omega)
  have f1 := fmod_hi c3 (n := b - 1) (by omega)
  have a0 := fmod_lo c4 (n := 5) (by decide)
  have a1 := fmod_hi c4 (n := 5) (by decide)
  obtain ⟨-, -, -, -, g5, g6⟩ := num_bounds (M := M) (a := c4.fmod 5) (fg := 1 + c3.fmod (b - 1)) hb2 hMa (by omega) (by omega) a0 (by omega)
  obtain ⟨Nn, hN⟩ : ∃ Nn, (1 + c3.fmod (b - 1)) * ((b ^ M.toNat - 1).fdiv (b - 1)) + c4.fmod 5 = Nn := ⟨_, rfl⟩
  rw [hN] at g5 g6
  obtain ⟨m, rfl⟩ := Int.eq_ofNat_of_zero_le (show 0 ≤ Nn by omega)
  have hm0 : 0 < m := by omega
  have hbn : ((b.toNat : Nat) : Int) = b := by omega
  have hbp : ∀ k, (0 : Int) < b ^ k := fun k => Int.pow_pos (by omega)
  have hmb : m < b.toNat ^ (M.toNat + 2) := by
    have : (m : Int) < ((b.toNat ^ (M.toNat + 2) : Nat) : Int) := by rw [Int.natCast_pow, hbn]; exact g6
    omega
  have hm122 : m < b.toNat ^ 122 := Nat.lt_of_lt_of_le hmb (Nat.pow_le_pow_right (by omega) (by omega))
  have hm2 : (m : Int) < 2 ^ (4 * 122 + 1) := Int.lt_trans g6 (pow_le_two hb2 hb16 (by omega)).2
  by_cases hp : 0 ≤ P
  · have hq := pow_le_two hb2 hb16 (show P.toNat ≤ 129 by omega)
    have hmm := mul_lt_two (show (0 : Int) ≤ (m : Int) by omega) hm2 hq.1 hq.2
    have ht : 0 < (m : Int) * b ^ P.toNat := Int.mul_pos (by omega) (hbp _)
    refine ⟨b, M, (m : Int), P, (m : Int) * b ^ P.toNat, 1, hb, hM1, hM2, hN, hP1, hP2, fun _ => ⟨rfl, rfl⟩, fun h => absurd hp h, ht, Int.lt_trans hmm.2 (by decide +kernel), by decide, by decide +kernel, Int.gcd_one .., fun h => ⟨rfl, b, hbB, ?_⟩, fun h => ⟨b, hbB, ?_⟩⟩
    · exact accW_own hb2 hm0 rfl (j := 32) (Nat.lt_of_lt_of_le hmb (Nat.pow_le_pow_right (by omega) (by have := hMc h; omega))) (by decide) (by decide) (by have := hPc h; omega)
    · exact good_own hb2 ht (by decide) hm0 hm122 ⟨1, by decide, by rw [Int.mul_one], by simp, .inr rfl, by omega, by omega⟩
  · have hq := pow_le_two hb2 hb16 (show (-P).toNat ≤ 170 by omega)
    obtain ⟨g, hg⟩ : ∃ g : Nat, Int.gcd (m : Int) (b ^ (-P).toNat) = g := ⟨_, rfl⟩
    have hg0 : 0 < g := by
      rcases Nat.eq_zero_or_pos g with e | e
      · rw [e] at hg; have := (Int.gcd_eq_zero_iff.mp hg).1; omega
      · exact e
    have hd1 : (g : Int) ∣ (m : Int) := hg ▸ Int.gcd_dvd_left ..
    have hd2 : (g : Int) ∣ b ^ (-P).toNat := hg ▸ Int.gcd_dvd_right ..
    have e1 : (m : Int).fdiv g * g = m := by rw [Int.fdiv_eq_ediv_of_nonneg _ (by omega)]; exact Int.ediv_mul_cancel hd1
    have e2 : (b ^ (-P).toNat).fdiv g * g = b ^ (-P).toNat := by rw [Int.fdiv_eq_ediv_of_nonneg _ (by omega)]; exact Int.ediv_mul_cancel hd2
    have ht := fdiv_lt (k := 2 ^ 1500) (show (0 : Int) ≤ (m : Int) by omega) (Int.lt_trans hm2 (by decide +kernel)) (show (0 : Int) < (g : Int) by omega)
    have hbo := fdiv_lt (k := 2 ^ 1500) (Int.le_of_lt (hbp (-P).toNat)) (Int.lt_trans hq.2 (by decide +kernel)) (show (0 : Int) < (g : Int) by omega)
    have pos : ∀ x y : Int, 0 ≤ x → x * (g : Int) = y → 0 < y → 0 < x := fun x y h0 h1 h2 => by
      rcases Int.lt_or_le 0 x with h | h
      · exact h
      · have : x = 0 := by omega
        rw [this, Int.zero_mul] at h1; omega
    have ht0 := pos _ _ ht.1 e1 (by omega)
    have hb0 := pos _ _ hbo.1 e2 (hbp _)
    have hcop : Int.gcd ((m : Int).fdiv g) ((b ^ (-P).toNat).fdiv g) = 1 := by
      have h1 : Int.gcd ((m : Int).fdiv g * g) ((b ^ (-P).toNat).fdiv g * g) = g := by rw [e1, e2, hg]
      rw [Int.gcd_mul_right, Int.natAbs_natCast] at h1
      exact Nat.eq_of_mul_eq_mul_right hg0 (by rw [h1, Nat.one_mul])
    refine ⟨b, M, (m : Int), P, (m : Int).fdiv g, (b ^ (-P).toNat).fdiv g, hb, hM1, hM2, hN, hP1, hP2, fun h => absurd h hp, fun _ => ⟨by rw [hg], by rw [hg]⟩, ht0, ht.2, hb0, hbo.2, hcop, fun h => absurd (hPc h).1 hp, fun _ => ⟨b, hbB, ?_⟩⟩
    exact good_own hb2 ht0 hb0 hm0 hm122 ⟨g, by omega, by rw [e1]; simp, e2, .inl rfl, by omega, by omega⟩

end Mine

-- the law
set_option maxHeartbeats 16000000 in
theorem PySem.Challenge.cw_pp0009_01_holds : PySem.Challenge.rw_pp0009_01.Holds := by
  w_on
  refine holds_law law_said fun said => ?_
  refine holds_open (q := VW) (loose := restN) (Xt := XtW) (XP := XL VW []) (Yf := HK.obs) (Ya := HK.val) (YP := HK.says) (N := 3968)
    law_ok HK.of HK.keeps (fun s e => xl_of s (Bool.and_eq_true_iff.mp e).1) XL.keeps (by rfl) (by rfl) (by rfl) (fun s e => recFacts_of (Bool.and_eq_true_iff.mp e).2) (by rfl) (by first | assumption | decide +kernel) (by decide +kernel)
    ⟨rfl, rfl, rfl, rfl, rfl, by decide +kernel⟩ ?hw ?hc
  case hw => w_witness2
  case hc =>
    have hKW : KW = KW ∧ PySem.Challenge.rw_pp0009_01 = PySem.Challenge.rw_pp0009_01 := by
      k_fill
      exact ⟨rfl, rfl⟩
    clear hKW
    intro w s₀ s₁ mg mb G Y fa o pm cd doc dV kV ho hd hcd hD hmg hg args vals as hpre hlay hrd hwl hlo
    have KX := kIn_of Y
    have X := (Ground.X G).1
    have V := (Ground.X G).2
    refine Ground.open G ?_
    intro T B D TE TW
    refine guard_noD D (by decide +kernel) ?_; clear D
    obtain ⟨_, _, M⟩ := bmod_of_top T
    have TA := at_of_top T
    try (obtain ⟨_, _, he, B0⟩ := based_of_top T rfl hmg ho hd; have he' : cd = _ := he; subst he'; clear he)
    clear hmg
    wrow_args hpre hlay hrd hwl hlo
    first | refine callC_kw (enter_call ?_) | refine enter_call ?_ | refine callC_kw (enter_callW ?_) | refine enter_callW ?_ | w_how
    w_top on
    try refine codeAny_mono ?_ (fun _ _ g => GoodW.toG g)
    have K0 := below_caller (Top.heap T)
    w_call any ho hd hcd hD T F
    clear hd TA
    k_drop
    refine wpAny_mono (?walk : wpAny _ _ _ (LawEnd s₁) _ _) ?fin (fun _ _ e => e)
    case fin =>
      rintro fl s' ⟨h', tk', m', rfl, rfl, F'⟩
      dsimp only
      wrow_steps
    clear said G Y B TE TW M V X ho hg
    repeat ((fail_if_success (with_reducible show wpAny _ _ (subscriptTail _ _ _ _) _ _ _)); walk1)
    (refine' slice_six (s := ⟨_, _, _, _, _⟩) ?z1 ?z2 ?z3 ?z4 ?z5 ?z6 ?_)
    case z1 => assumption
    case z2 => assumption
    case z3 => exact News.isList (by assumption) (by k_mem)
    case z4 => assumption
    case z5 => simp
    case z6 => simp only [List.length_append, List.length_cons, List.length_nil]; omega
    intro D6 h6 c0 c1 c2 c3 c4 c5 t0 t1 t2 t3 t4 t5 F6 N6 l6
    k_lt l6
    (try k_sweep)
    obtain ⟨b, M', Nn, P, top, bottom, e1, e2, e3, e4, e5, e6, e7, e8, ht0, ht1, hb0, hb1, hgc, hI, hR⟩ := law_nums c0 c1 c2 c3 c4 c5
    obtain ⟨r, hr⟩ : ∃ r, decide (c0.fmod 2 = 1) = r := ⟨_, rfl⟩
    have NC := fun w mean mg mb => number_con (w := w) (mean := mean) (mg := mg) (mb := mb) D6 c0 c1 c2 c3 c4 c5 b M' Nn P top bottom t0 t1 t2 t3 t4 t5 e1 e2 e3 e4 e5 e6 e7 e8
    rw [hr] at NC
    clear e1 e2 e3 e4 e5 e6 e7 e8
    repeat ((fail_if_success (with_reducible show wpAny _ _ (call (Value.ref 257) _) _ _ _)); walk1)
    k_dflt (refine' ConN.use (NC _ _ _ _) ?k1 ?k2 ?k3 ?k4 ?k5 ?kK ?kd ?ku ?km ?_)
    walk_at "mine con"
    case km => k_mem
    intro v9 ex9 h9 tk9 P9 lt9 F9 N9
    obtain ⟨D9, t8, t9, hv9, hex9⟩ := P9
    subst hex9 hv9
    (try simp only [List.nil_append, List.cons_append] at N9)
    (have l9 := fun p hp => lt9 p hp _ (List.mem_cons_self ..))
    clear lt9 NC
    (try k_lt l9)
    (try k_sweep)
    have ht0' := Int.le_of_lt ht0
    cases r
    · obtain ⟨hb', hacc⟩ := hI (of_decide_eq_false hr)
      subst hb'
      clear hI hR hr
      repeat ((fail_if_success (with_reducible show wpAny _ _ (call (Value.ref 222) _) _ _ _)); walk1)
      k_dflt (refine' Con.use (whole_con2 top ht0' ht1 hacc _) ?k1 ?k2 ?k3 ?k4 ?k5 ?kK ?kd ?ku ?_)
      walk_at "mine con"
      intro v9 ex9 h9 tk9 P9 lt9 F9 N9
      obtain ⟨hex9, x, tx, hv9, hL, h80⟩ := P9
      subst hex9 hv9
      (try simp only [List.nil_append] at N9)
      clear lt9
      (try k_sweep)
      repeat ((fail_if_success (with_reducible show wpAny _ _ (call (Value.ref 264) _) _ _ _)); walk1)
      k_dflt (refine' Con.use (lit_worth hL ht0' ht1 hb0 hb1 _ _ _) ?k1 ?k2 ?k3 ?k4 ?k5 ?kK ?kd ?ku ?_)
      walk_at "mine con"
      intro v9 ex9 h9 tk9 P9 lt9 F9 N9
      obtain ⟨hex9, hv9⟩ := P9
      subst hex9 hv9
      (try simp only [List.nil_append] at N9)
      clear lt9
      (try k_sweep)
      clear hacc
      repeat ((fail_if_success (with_reducible show wpAny _ _ (execs (_ :: _) _) _ _ _)); walk1)
      (rename Fr _ _ _ _ => lF'); (rename News _ _ _ _ => lN')
      (with_unfolding_all refine' my_cut (σ := Unit) [_] (fun c => []) [] (fun _ => True) lF' lN' ?cut ?exit)
      case cut =>
        by_cases h1 : top < 10 ^ Int.toNat 80
        · have hx := h80 h1
          subst hx
          repeat ((fail_if_success (with_reducible show wpAny _ _ (call (Value.type "str") _) _ _ _)); walk1)
          refine str_I ht0' ht1 ?_
          intro ts
          k_steps
          (try dsimp only)
          refine' MwEnd.intro () ?F ?N ?led ?kk ?rr ?g
          walk_at "mine mw"
          case g => trivial
        · k_steps
          (try dsimp only)
          refine' MwEnd.intro () ?F ?N ?led ?kk ?rr ?g
          walk_at "mine mw"
          case g => trivial
      case exit =>
      clear lF' lN' h80
      rintro ⟨⟩ u5 h5' tk5 _ F5 N5
      dsimp only at F5 N5 ⊢
      repeat ((fail_if_success (with_reducible show wpAny _ _ (call (Value.ref 200) _) _ _ _)); walk1)
      k_dflt (refine' Con.use (lit_toks_int hL ht0' _) ?k1 ?k2 ?k3 ?k4 ?k5 ?kK ?kd ?ku ?_)
      walk_at "mine con"
      intro v9 ex9 h9 tk9 P9 lt9 F9 N9
      obtain ⟨A1, A2, a1, a2, a3, hv9, hex9, lA⟩ := P9
      subst hex9 hv9
      (try simp only [List.nil_append, List.cons_append] at N9)
      (have l1 := fun p hp => lt9 p hp _ (List.mem_cons_self ..))
      (have l2 := fun p hp => lt9 p hp _ (List.mem_cons_of_mem _ (List.mem_cons_self ..)))
      clear lt9 hL
      (try k_lt l1)
      (try k_lt l2)
      (try k_sweep)
      k_steps
      exact ⟨_, _, _, rfl, rfl, by assumption⟩
    · have hgd := hR (of_decide_eq_true hr)
      clear hI hR hr
      repeat ((fail_if_success (with_reducible show wpAny _ _ (call (Value.ref 236) _) _ _ _)); walk1)
      k_dflt (refine' Con.use (real_con2 top bottom ht0 ht1 hb0 hb1 hgd _ _) ?k1 ?k2 ?k3 ?k4 ?k5 ?kK ?kd ?ku ?_)
      walk_at "mine con"
      intro v9 ex9 h9 tk9 P9 lt9 F9 N9
      obtain ⟨hex9, x, tx, hv9, hL⟩ := P9
      subst hex9 hv9
      (try simp only [List.nil_append] at N9)
      clear lt9
      (try k_sweep)
      repeat ((fail_if_success (with_reducible show wpAny _ _ (call (Value.ref 264) _) _ _ _)); walk1)
      k_dflt (refine' Con.use (lit_worth hL ht0' ht1 hb0 hb1 _ _ _) ?k1 ?k2 ?k3 ?k4 ?k5 ?kK ?kd ?ku ?_)
      walk_at "mine con"
      intro v9 ex9 h9 tk9 P9 lt9 F9 N9
      obtain ⟨hex9, hv9⟩ := P9
      subst hex9 hv9
      (try simp only [List.nil_append] at N9)
      clear lt9
      (try k_sweep)
      clear hgd
      repeat ((fail_if_success (with_reducible show wpAny _ _ (call (Value.ref 200) _) _ _ _)); walk1)
      k_dflt (refine' Con.use (lit_toks_real hL ht0' ht1 hb0 hb1 hgc _) ?k1 ?k2 ?k3 ?k4 ?k5 ?kK ?kd ?ku ?_)
      walk_at "mine con"
      intro v9 ex9 h9 tk9 P9 lt9 F9 N9
      obtain ⟨A0, A1, A2, a1, a2, a3, a4, hv9, hex9, lA, lB⟩ := P9
      subst hex9 hv9
      (try simp only [List.nil_append, List.cons_append] at N9)
      (have l1 := fun p hp => lt9 p hp _ (List.mem_cons_self ..))
      (have l0 := fun p hp => lt9 p hp _ (List.mem_cons_of_mem _ (List.mem_cons_self ..)))
      (have l2 := fun p hp => lt9 p hp _ (List.mem_cons_of_mem _ (List.mem_cons_of_mem _ (List.mem_cons_self ..))))
      clear lt9 hL
      (try k_lt l1)
      (try k_lt l0)
      (try k_lt l2)
      (try k_sweep)
      k_steps
      exact ⟨_, _, _, rfl, rfl, by assumption⟩
