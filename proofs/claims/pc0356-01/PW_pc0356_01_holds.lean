import PyProof.Rows.All
import Wide.All
import OpenK.AllK
import Wide.FinOn
import Lean
import PySem.Challenge.RW_pc0356_01
open PySem PySem.W PyProof.Rows PySem.Spec PySem.Calls
set_option Elab.async false
set_option maxRecDepth 100000
set_option maxHeartbeats 8000000

-- HD
namespace Mine
open_top hd for PySem.Challenge.rw_pc0356_01
end Mine

-- MB
namespace Mine

/-! plain: bits and words -/
theorem band_nn (x y : Nat) : Builtin.bitAnd (x : Int) (y : Int) = ((x &&& y : Nat) : Int) := by
  unfold Builtin.bitAnd
  simp
theorem bnot_n (x : Nat) : Builtin.bitNot (x : Int) = -(x : Int) - 1 := rfl
theorem bor_nn (x y : Nat) : Builtin.bitOr (x : Int) (y : Int) = ((x ||| y : Nat) : Int) := by
  have h1 : ¬ ((0 : Int) ≤ -(x : Int) - 1) := by omega
  have h2 : ¬ ((0 : Int) ≤ -(y : Int) - 1) := by omega
  have e1 : (-(-(x : Int) - 1) - 1) = (x : Int) := by omega
  have e2 : (-(-(y : Int) - 1) - 1) = (y : Int) := by omega
  unfold Builtin.bitOr Builtin.bitAnd Builtin.bitNot
  simp only [h1, h2, decide_false, e1, e2, Int.toNat_natCast]
  omega
theorem lor_eq : ∀ x y : Nat, (x ||| y) = (x ^^^ y) + (x &&& y) := by
  intro x
  induction x using Nat.strongRecOn with
  | _ x ih =>
    intro y
    by_cases hx : x = 0
    · subst hx; simp
    · have h := ih (x / 2) (by omega) (y / 2)
      have a1 := Nat.or_div_two (a := x) (b := y)
      have a2 := Nat.xor_div_two (a := x) (b := y)
      have a3 := Nat.and_div_two (a := x) (b := y)
      have b1 := Nat.or_mod_two_pow (a := x) (b := y) (n := 1)
      have b2 := Nat.xor_mod_two_pow (a := x) (b := y) (n := 1)
      have b3 := Nat.and_mod_two_pow (a := x) (b := y) (n := 1)
      rw [Nat.pow_one] at b1 b2 b3
      have c : (x % 2 ||| y % 2) = (x % 2 ^^^ y % 2) + (x % 2 &&& y % 2) := by
        rcases Nat.mod_two_eq_zero_or_one x with e | e <;> rcases Nat.mod_two_eq_zero_or_one y with f | f <;> rw [e, f] <;> decide
      omega
theorem add_eq : ∀ x y : Nat, x + y = (x ^^^ y) + 2 * (x &&& y) := by
  intro x
  induction x using Nat.strongRecOn with
  | _ x ih =>
    intro y
    by_cases hx : x = 0
    · subst hx; simp
    · have h := ih (x / 2) (by omega) (y / 2)
      have a2 := Nat.xor_div_two (a := x) (b := y)
      have a3 := Nat.and_div_two (a := x) (b := y)
      have b2 := Nat.xor_mod_two_pow (a := x) (b := y) (n := 1)
      have b3 := Nat.and_mod_two_pow (a := x) (b := y) (n := 1)
      rw [Nat.pow_one] at b2 b3
      have c : (x % 2 + y % 2) = (x % 2 ^^^ y % 2) + 2 * (x % 2 &&& y % 2) := by
        rcases Nat.mod_two_eq_zero_or_one x with e | e <;> rcases Nat.mod_two_eq_zero_or_one y with f | f <;> rw [e, f] <;> decide
      omega
theorem or_of_disj {x y : Nat} (h : (x &&& y) = 0) : (x ||| y) = x + y := by
  have a := lor_eq x y
  have b := add_eq x y
  rw [h] at a b
  omega
theorem bxor_nn (x y : Nat) : Builtin.bitXor (x : Int) (y : Int) = ((x ^^^ y : Nat) : Int) := by
  unfold Builtin.bitXor
  rw [band_nn, bor_nn, lor_eq]
  omega
theorem bandnot_nn (x y : Nat) (hx : x < 4294967296) (hy : y < 4294967296) : Builtin.bitAnd (Builtin.bitNot (x : Int)) (y : Int) = (((4294967295 - x) &&& y : Nat) : Int) := by
  have h1 : ¬ ((0 : Int) ≤ -(x : Int) - 1) := by omega
  have e1 : (-(-(x : Int) - 1) - 1) = (x : Int) := by omega
  have h2 : ((0 : Int) ≤ (y : Int)) := by omega
  unfold Builtin.bitAnd Builtin.bitNot
  simp only [h1, h2, decide_false, decide_true, e1, Int.toNat_natCast]
  have e : y = (y &&& x) + ((4294967295 - x) &&& y) := by
    have k1 : (y &&& x) + ((4294967295 - x) &&& y) = ((y &&& x) ||| ((4294967295 - x) &&& y)) := by
      refine (or_of_disj ?_).symm
      apply Nat.eq_of_testBit_eq
      intro i
      have t := Nat.testBit_two_pow_sub_succ (x := x) (n := 32) (by omega) i
      rw [show (2 ^ 32 - (x + 1) : Nat) = 4294967295 - x by omega] at t
      simp only [Nat.testBit_and, t, Nat.zero_testBit]
      cases x.testBit i <;> simp
    rw [k1]
    apply Nat.eq_of_testBit_eq
    intro i
    have t := Nat.testBit_two_pow_sub_succ (x := x) (n := 32) (by omega) i
    rw [show (2 ^ 32 - (x + 1) : Nat) = 4294967295 - x by omega] at t
    simp only [Nat.testBit_and, Nat.testBit_or, t]
    have u : 32 ≤ i → y.testBit i = false := fun h => Nat.testBit_lt_two_pow (Nat.lt_of_lt_of_le hy (Nat.pow_le_pow_right (show 2 > 0 by decide) h))
    cases h1 : x.testBit i <;> cases h2 : y.testBit i <;> simp
    exact Nat.lt_of_not_le fun h => by rw [u h] at h2; cases h2
  omega

theorem band_m (x : Nat) : Builtin.bitAnd (x : Int) 4294967295 = ((x % 4294967296 : Nat) : Int) := by
  rw [bitAnd_m32]; omega
theorem not_xor (x : Nat) (hx : x < 4294967296) (i : Nat) : (4294967295 - x).testBit i = (decide (i < 32) && !x.testBit i) := by
  have t := Nat.testBit_two_pow_sub_succ (x := x) (n := 32) (by omega) i
  rwa [show (2 ^ 32 - (x + 1) : Nat) = 4294967295 - x by omega] at t
theorem high_bit {x i : Nat} (hx : x < 4294967296) (h : 32 ≤ i) : x.testBit i = false :=
  Nat.testBit_lt_two_pow (Nat.lt_of_lt_of_le hx (Nat.pow_le_pow_right (show 2 > 0 by decide) h))

/-! the spec: words -/
def rotl (n p : Nat) : Nat := n * 2 ^ p % 4294967296 + n / 2 ^ (32 - p)
def mixN (k b c d : Nat) : Nat :=
  if k < 16 then (b &&& c) ||| ((4294967295 - b) &&& d)
  else if k < 32 then (d &&& b) ||| ((4294967295 - d) &&& c)
  else if k < 48 then (b ^^^ c) ^^^ d
  else c ^^^ (b ||| (4294967295 - d))
def plc (k : Nat) : Nat := if k < 16 then k else if k < 32 then (5 * k + 1) % 16 else if k < 48 then (3 * k + 5) % 16 else 7 * k % 16
theorem plc_lt {k : Nat} : plc k < 16 := by
  unfold plc; split
  · assumption
  · split
    · omega
    · split <;> omega
theorem lt_of_bits {x : Nat} (h : ∀ i, 32 ≤ i → x.testBit i = false) : x < 4294967296 := Nat.lt_pow_two_of_testBit x h (n := 32)
theorem mixN_lt {k b c d : Nat} (hb : b < 4294967296) (hc : c < 4294967296) (hd : d < 4294967296) : mixN k b c d < 4294967296 := by
  apply lt_of_bits
  intro i hi
  have h1 := high_bit hb hi
  have h2 := high_bit hc hi
  have h3 := high_bit hd hi
  have h4 : decide (i < 32) = false := by simp; omega
  unfold mixN
  split
  · simp [h1, h2, h3]
  · split
    · simp [h1, h2, h3]
    · split
      · simp [h1, h2, h3]
      · simp [h1, h2, h3, not_xor d hd, h4]
theorem rotl_eq (n p : Nat) (h1 : p < 32) (hn : n < 4294967296) : (n * 2 ^ p ||| n / 2 ^ (32 - p)) % 4294967296 = rotl n p := by
  unfold rotl
  have e := Nat.or_mod_two_pow (a := n * 2 ^ p) (b := n / 2 ^ (32 - p)) (n := 32)
  have hp : (2 : Nat) ^ p * 2 ^ (32 - p) = 4294967296 := by rw [← Nat.pow_add, show p + (32 - p) = 32 by omega]
  have hlt : n / 2 ^ (32 - p) < 2 ^ p := Nat.div_lt_of_lt_mul (by rw [Nat.mul_comm, hp]; exact hn)
  have hle : (2 : Nat) ^ p ≤ 2 ^ 32 := Nat.pow_le_pow_right (by decide) (by omega)
  have e2 : n * 2 ^ p % 2 ^ 32 = 2 ^ p * (n % 2 ^ (32 - p)) := by
    rw [show (2 : Nat) ^ 32 = 2 ^ p * 2 ^ (32 - p) from hp.symm, Nat.mul_comm n, Nat.mul_mod_mul_left]
  rw [show (4294967296 : Nat) = 2 ^ 32 from rfl, e, Nat.mod_eq_of_lt (Nat.lt_of_lt_of_le hlt hle), e2, ← Nat.two_pow_add_eq_or_of_lt hlt]
theorem rotl_lt {n p : Nat} (h1 : p < 32) (hn : n < 4294967296) : rotl n p < 4294967296 := by
  rw [← rotl_eq n p h1 hn]; exact Nat.mod_lt _ (by decide)
theorem rotl_int (n p : Nat) (h1 : p < 32) (hn : n < 4294967296) : Builtin.bitAnd (Builtin.bitOr ((n : Int) * 2 ^ ((p : Int)).toNat) ((n : Int).fdiv (2 ^ (32 - (p : Int)).toNat))) 4294967295 = ((rotl n p : Nat) : Int) := by
  have e1 : ((n : Int) * 2 ^ ((p : Int)).toNat) = ((n * 2 ^ p : Nat) : Int) := by
    rw [Int.toNat_natCast]; push_cast; rfl
  have e2 : ((n : Int).fdiv (2 ^ (32 - (p : Int)).toNat)) = ((n / 2 ^ (32 - p) : Nat) : Int) := by
    rw [show (32 - (p : Int)).toNat = 32 - p by omega, Int.fdiv_eq_ediv_of_nonneg _ (by exact Int.le_of_lt (Int.pow_pos (by decide)))]
    push_cast; rfl
  rw [e1, e2, bor_nn, band_m, rotl_eq n p h1 hn]
theorem mix_law1 (b c d : Nat) (hb : b < 4294967296) (hd : d < 4294967296) : (d ^^^ (b &&& (c ^^^ d))) = ((b &&& c) ||| ((4294967295 - b) &&& d)) := by
  apply Nat.eq_of_testBit_eq
  intro i
  simp only [Nat.testBit_and, Nat.testBit_or, Nat.testBit_xor, not_xor b hb]
  by_cases hi : i < 32
  · simp [hi]; cases b.testBit i <;> cases c.testBit i <;> cases d.testBit i <;> rfl
  · have := high_bit hd (Nat.le_of_not_lt hi); have := high_bit hb (Nat.le_of_not_lt hi); simp_all
theorem mix_law2 (b c d : Nat) (hc : c < 4294967296) (hd : d < 4294967296) : (c ^^^ (d &&& (b ^^^ c))) = ((d &&& b) ||| ((4294967295 - d) &&& c)) := by
  rw [mix_law1 d b c hd hc]
end Mine

-- W1
namespace Mine

def Tl (w : World) (p : Program) (loose : List Str) (mean : ExcName → Option Value) (mg mb : Str → Option Value) (f : Addr) (news : List (Addr × Obj)) (vs : List Value) (lv : Nat) (Out : List (Addr × Obj) → Value → Prop) : Prop :=
  ∀ (dp un : Nat) (gd : Option (List Code)) (cn : Str) (cs : Scope) (a : Addr) (ccd : Value) (cl : List (Str × Addr)) (outer : List Env) (A₀ : Around) (base h₀ : Heap) (L : Addr) (m : Str → Option Value) (s : Shared)
    (Q E : Value → Shared → Prop),
    Below A₀ base outer h₀ → Fr h₀ L s.heap m → (hd.heap_39 w.params).In h₀ → News h₀ L s.heap news → Top p loose mean mg mb h₀ → cs.kind = .function → dp + lv < recursionLimit → un + 8 * lv < cLine →
    (∀ r tl h' tk', Fr h₀ L h' m → News h₀ L h' (tl ++ news) → (∀ q ∈ news, ∀ p ∈ tl, q.1 < p.1) → Out tl r → Q r { s with heap := h', toks := tk' }) →
    wpAny (model PySem.Challenge.rw_pc0356_01.row.prog w) (ktrTop dp un gd cn cs L a ccd cl outer) (call (.ref f) vs) Q E s

theorem tl_use {w : World} {p : Program} {loose : List Str} {mean : ExcName → Option Value} {mg mb : Str → Option Value} {f : Addr} {news : List (Addr × Obj)} {vs : List Value} {lv : Nat} {Out : List (Addr × Obj) → Value → Prop}
    {dp un : Nat} {gd : Option (List Code)} {cn : Str} {cs : Scope} {a : Addr} {ccd : Value} {cl : List (Str × Addr)} {outer : List Env} {A₀ : Around} {base h₀ : Heap} {L : Addr} {m : Str → Option Value} {s : Shared}
    {Q E : Value → Shared → Prop} (B : Below A₀ base outer h₀) (F : Fr h₀ L s.heap m) (X : (hd.heap_39 w.params).In h₀) (N : News h₀ L s.heap news) (T : Top p loose mean mg mb h₀) (C : Tl w p loose mean mg mb f news vs lv Out) (hk : cs.kind = .function) (hd : dp + lv < recursionLimit) (hu : un + 8 * lv < cLine)
    (ret : ∀ r tl h' tk', Fr h₀ L h' m → News h₀ L h' (tl ++ news) → (∀ q ∈ news, ∀ p ∈ tl, q.1 < p.1) → Out tl r → Q r { s with heap := h', toks := tk' }) :
    wpAny (model PySem.Challenge.rw_pc0356_01.row.prog w) (ktrTop dp un gd cn cs L a ccd cl outer) (call (.ref f) vs) Q E s := C _ _ _ _ _ _ _ _ _ _ _ _ _ _ _ _ _ B F X N T hk hd hu ret

abbrev tupO (vs : List Value) : Obj := { cls := .type "tuple", data := .seq vs.toArray }

theorem q_int {Q : Value → Shared → Prop} {x y : Int} {t : Tok} {s : Shared} (e : x = y) (h : Q (.int y t) s) : Q (.int x t) s := e ▸ h
theorem tup2_eq {a : Addr} {t u : Tok} {x x' y y' : Int} (ex : x = x') (ey : y = y') : [(a, ({ cls := .type "tuple", data := .seq #[.int x t, .int y u] } : Obj))] = [(a, tupO [.int x' t, .int y' u])] := by subst ex; subst ey; rfl
theorem mix_a {k b c d : Nat} (hb : b < 4294967296) (hd : d < 4294967296) (h : k < 16) : Builtin.bitOr (Builtin.bitAnd (b : Int) c) (Builtin.bitAnd (Builtin.bitNot b) d) = ((mixN k b c d : Nat) : Int) := by
  rw [band_nn, bandnot_nn b d hb hd, bor_nn, mixN, if_pos h]
theorem mix_b {k b c d : Nat} (hc : c < 4294967296) (hd : d < 4294967296) (h1 : 16 ≤ k) (h : k < 32) : Builtin.bitOr (Builtin.bitAnd (d : Int) b) (Builtin.bitAnd (Builtin.bitNot d) c) = ((mixN k b c d : Nat) : Int) := by
  rw [band_nn, bandnot_nn d c hd hc, bor_nn, mixN, if_neg (by omega), if_pos h]
theorem mix_c {k b c d : Nat} (h1 : 32 ≤ k) (h : k < 48) : Builtin.bitXor (Builtin.bitXor (b : Int) c) d = ((mixN k b c d : Nat) : Int) := by
  rw [bxor_nn, bxor_nn, mixN, if_neg (by omega), if_neg (by omega), if_pos h]
theorem mix_d {k b c d : Nat} (hd : d < 4294967296) (h1 : 48 ≤ k) : Builtin.bitXor (c : Int) (Builtin.bitOr (b : Int) (Builtin.bitAnd (Builtin.bitNot d) 4294967295)) = ((mixN k b c d : Nat) : Int) := by
  have e : Builtin.bitAnd (Builtin.bitNot (d : Int)) 4294967295 = ((4294967295 - d : Nat) : Int) := by
    rw [bitAnd_m32, bnot_n]; omega
  rw [e, bor_nn, bxor_nn, mixN, if_neg (by omega), if_neg (by omega), if_neg (by omega)]
theorem mixl_a {k b c d : Nat} (hb : b < 4294967296) (hd : d < 4294967296) (h : k < 16) : Builtin.bitXor (d : Int) (Builtin.bitAnd (b : Int) (Builtin.bitXor (c : Int) d)) = ((mixN k b c d : Nat) : Int) := by
  rw [bxor_nn, band_nn, bxor_nn, mix_law1 b c d hb hd, mixN, if_pos h]
theorem mixl_b {k b c d : Nat} (hc : c < 4294967296) (hd : d < 4294967296) (h1 : 16 ≤ k) (h : k < 32) : Builtin.bitXor (c : Int) (Builtin.bitAnd (d : Int) (Builtin.bitXor (b : Int) c)) = ((mixN k b c d : Nat) : Int) := by
  rw [bxor_nn, band_nn, bxor_nn, mix_law2 b c d hc hd, mixN, if_neg (by omega), if_pos h]
theorem mixl_d {k b c d : Nat} (hd : d < 4294967296) (h1 : 48 ≤ k) : Builtin.bitXor (c : Int) (Builtin.bitOr (b : Int) (2 ^ Int.toNat 32 - 1 - (d : Int))) = ((mixN k b c d : Nat) : Int) := by
  have e : (2 ^ Int.toNat 32 - 1 - (d : Int)) = ((4294967295 - d : Nat) : Int) := by
    rw [show (2 ^ Int.toNat 32 : Int) = 4294967296 from by decide]; omega
  rw [e, bor_nn, bxor_nn, mixN, if_neg (by omega), if_neg (by omega), if_neg (by omega)]
theorem no_tl {news : List (Addr × Obj)} : ∀ q ∈ news, ∀ p ∈ ([] : List (Addr × Obj)), q.1 < p.1 := fun _ _ _ h => nomatch h

section
variable {w : World} {p : Program} {loose : List Str} {mean : ExcName → Option Value} {mg mb : Str → Option Value}

theorem turned_left_tl (news : List (Addr × Obj)) (n q : Nat) (tn tp : Tok) (h1 : n < 4294967296) (h2 : 0 < q) (h3 : q < 32) :
   Tl w p loose mean mg mb 28 news [.int n tn, .int q tp] 1 (fun tl r => tl = [] ∧ ∃ t, r = .int (rotl n q : Nat) t) := by
  w_top off
  unfold Tl
  k_fill
  intro dp un gd cn cs a ccd cl outer A₀ base h₀ L m s Q E B F X N T hk hd hu hret
  refine wpAny_call ?_
  k_dflt ktr_enter
  k_steps
  exact q_int (rotl_int n q h3 h1) (hret _ [] _ _ (by k_asm) (by k_asm) no_tl ⟨rfl, _, rfl⟩)

theorem step_parts_tl (news : List (Addr × Obj)) (k b c d : Nat) (tk tb tc td : Tok) (h1 : k < 64) (hb : b < 4294967296) (hc : c < 4294967296) (hd' : d < 4294967296) :
   Tl w p loose mean mg mb 47 news [.int k tk, .int b tb, .int c tc, .int d td] 1 (fun tl r => ∃ a t1 t2, r = .ref a ∧ tl = [(a, tupO [.int (mixN k b c d : Nat) t1, .int (plc k : Nat) t2])]) := by
  unfold Tl
  k_fill
  intro dp un gd cn cs a ccd cl outer A₀ base h₀ L m s Q E B F X N T hk hd hu hret
  refine wpAny_call ?_
  k_dflt ktr_enter
  k_steps
  · exact hret _ [_] _ _ (by k_asm) (by k_asm) (ktn_ord1 (by ktn_lt)) ⟨_, _, _, rfl, tup2_eq (mix_a hb hd' (by omega)) (by rw [plc, if_pos (by omega)])⟩
  · exact hret _ [_] _ _ (by k_asm) (by k_asm) (ktn_ord1 (by ktn_lt)) ⟨_, _, _, rfl, tup2_eq (mix_b hc hd' (by omega) (by omega)) (by rw [plc, if_neg (by omega), if_pos (by omega)]; rw [Int.fmod_eq_emod_of_nonneg _ (by decide)]; omega)⟩
  · exact hret _ [_] _ _ (by k_asm) (by k_asm) (ktn_ord1 (by ktn_lt)) ⟨_, _, _, rfl, tup2_eq (mix_c (by omega) (by omega)) (by rw [plc, if_neg (by omega), if_neg (by omega), if_pos (by omega)]; rw [Int.fmod_eq_emod_of_nonneg _ (by decide)]; omega)⟩
  · exact hret _ [_] _ _ (by k_asm) (by k_asm) (ktn_ord1 (by ktn_lt)) ⟨_, _, _, rfl, tup2_eq (mix_d hd' (by omega)) (by rw [plc, if_neg (by omega), if_neg (by omega), if_neg (by omega)]; rw [Int.fmod_eq_emod_of_nonneg _ (by decide)]; omega)⟩

theorem law_mixed_tl (news : List (Addr × Obj)) (k b c d : Nat) (tk tb tc td : Tok) (h1 : k < 64) (hb : b < 4294967296) (hc : c < 4294967296) (hd' : d < 4294967296) :
   Tl w p loose mean mg mb 95 news [.int k tk, .int b tb, .int c tc, .int d td] 1 (fun tl r => tl = [] ∧ ∃ t, r = .int (mixN k b c d : Nat) t) := by
  unfold Tl
  k_fill
  intro dp un gd cn cs a ccd cl outer A₀ base h₀ L m s Q E B F X N T hk hd hu hret
  have fd : ((k : Int)).fdiv 16 = (k : Int) / 16 := Int.fdiv_eq_ediv_of_nonneg _ (by decide)
  refine wpAny_call ?_
  k_dflt ktr_enter
  k_steps
  · exact q_int (mixl_a hb hd' (by omega)) (hret _ [] _ _ (by k_asm) (by k_asm) no_tl ⟨rfl, _, rfl⟩)
  · exact q_int (mixl_b hc hd' (by omega) (by omega)) (hret _ [] _ _ (by k_asm) (by k_asm) no_tl ⟨rfl, _, rfl⟩)
  · exact q_int (mix_c (by omega) (by omega)) (hret _ [] _ _ (by k_asm) (by k_asm) no_tl ⟨rfl, _, rfl⟩)
  · exact q_int (mixl_d hd' (by omega)) (hret _ [] _ _ (by k_asm) (by k_asm) no_tl ⟨rfl, _, rfl⟩)
end
end Mine

-- LP
namespace Mine

theorem kstB_all {m : Str → Option Value} {ps : List (Str × Value)} (h : ∀ p ∈ ps, m p.1 = some p.2) : kstB m ps = m := by
  funext z
  exact kstB_eq h fun _ => rfl

/-- the end of a loop's turn -/
def TurnEnd {σ : Type} (h₀ : Heap) (L I : Addr) (it : Obj) (ps : σ → List (Str × Value)) (Led : σ → List (Addr × Obj)) (P : σ → Prop) (s₁ : Shared) (f : Flow) (s₂ : Shared) : Prop :=
  (f = .next ∨ f = .cont) ∧ ∃ c h' tk m', s₂ = { s₁ with heap := h', toks := tk } ∧ Fr h₀ L h' m' ∧ (∀ p ∈ ps c, m' p.1 = some p.2) ∧ News h₀ L h' ((I, it) :: Led c) ∧ (∀ p ∈ Led c, p.1 ≠ I) ∧ P c

theorem TurnEnd.next {σ : Type} {h₀ : Heap} {L I : Addr} {it : Obj} {ps : σ → List (Str × Value)} {Led : σ → List (Addr × Obj)} {P : σ → Prop} {s₁ : Shared} {h' : Heap} {tk : Nat} {m' : Str → Option Value} {all : List (Addr × Obj)}
    (c : σ) (F : Fr h₀ L h' m') (N : News h₀ L h' all) (hps : ∀ p ∈ ps c, m' p.1 = some p.2) (hN : ∀ p ∈ (I, it) :: Led c, p ∈ all) (off : ∀ p ∈ Led c, p.1 ≠ I) (hP : P c) : TurnEnd h₀ L I it ps Led P s₁ .next { s₁ with heap := h', toks := tk } :=
  ⟨.inl rfl, c, h', tk, m', rfl, F, hps, fun p hp => N p (hN p hp), off, hP⟩
section
variable {prog : Program} {w : World} {A : Around} {E : Value → Shared → Prop} {s : Shared} {env : Env} {h₀ : Heap} {x : Str} {body : List Stmt} {Q : Flow → Shared → Prop}

theorem krs_st {σ : Type} {I : Addr} {a c : Int} {n : Nat} (ps : σ → List (Str × Value)) (Led : σ → List (Addr × Obj)) (P : Nat → σ → Prop)
    (turn : ∀ st i u v t h tk, i < n → P i st → v = a + (i : Int) * c → (∀ p ∈ Led st, p.1 ≠ I) → Fr h₀ env.locals h (fun y => if y = x then some (.int v t) else kstB u (ps st) y) →
      News h₀ env.locals h ((I, krsIt (a + ((i + 1 : Nat) : Int) * c) ((n : Int) - ((i + 1 : Nat) : Int)) c) :: Led st) →
      wpAny (model prog w) A (execs body env) (TurnEnd h₀ env.locals I (krsIt (a + ((i + 1 : Nat) : Int) * c) ((n : Int) - ((i + 1 : Nat) : Int)) c) ps Led (P (i + 1)) { s with heap := h, toks := tk }) E { s with heap := h, toks := tk })
    (done : ∀ st u h tk, P n st → Fr h₀ env.locals h (kstB u (ps st)) → News h₀ env.locals h (Led st) → Q .next { s with heap := h, toks := tk }) :
    ∀ k i m news st, i + k = n → P i st → (∀ p ∈ ps st, m p.1 = some p.2) → news = Led st → (∀ p ∈ news, p.1 ≠ I) → KrsRest prog w A E h₀ env x body Q s I a c n k i m news := by
  intro k
  induction k with
  | zero =>
    intro i m news st hi hP hps hn off
    subst hn
    obtain rfl : i = n := by omega
    refine KrsRest.zero fun h tk F N => ?_
    exact done st m h tk hP (by rw [kstB_all hps]; exact F) N
  | succ k ih =>
    intro i m news st hi hP hps hn off
    subst hn
    refine KrsRest.succ rfl fun t h tk F N => ?_
    refine wpAny_mono (turn st i m _ t h tk (by omega) hP rfl off ?_ N) (fun f s₂ hq => ?_) fun _ _ e => e
    · rw [kstB_all hps]; exact F
    · obtain ⟨hf, st', h', tk', m', rfl, F', hps', N', off', hP'⟩ := hq
      have fin : UnrEnd h₀ env.locals { s with heap := h, toks := tk } I (krsIt (a + ((i + 1 : Nat) : Int) * c) ((n : Int) - ((i + 1 : Nat) : Int)) c) (KrsRest prog w A E h₀ env x body Q s I a c n k (i + 1)) { s with heap := h', toks := tk' } :=
        ⟨h', tk', m', Led st', rfl, F', N', off', ih (i + 1) m' _ st' (by omega) hP' hps' rfl off'⟩
      rcases hf with rfl | rfl
      · exact fin
      · exact fin

theorem range_st {σ : Type} (ps : σ → List (Str × Value)) (Led : σ → List (Addr × Obj)) (P : Nat → σ → Prop) (st₀ : σ) {r : Addr} {a₀ b₀ c : Int} {t₀ u₀ v₀ : Tok} (n : Nat) {m₀ : Str → Option Value}
    (hh : A.handled = none) (hr : IsRange s.heap r a₀ b₀ c t₀ u₀ v₀) (hsmall : Builtin.Range.small a₀ b₀ c = true) (hn : Builtin.Range.rangeSize a₀ b₀ c = (n : Int)) (F : Fr h₀ env.locals s.heap m₀) (N : News h₀ env.locals s.heap (Led st₀))
    (h0 : P 0 st₀) (hps : ∀ p ∈ ps st₀, m₀ p.1 = some p.2)
    (turn : ∀ I st i u v t h tk, i < n → P i st → v = a₀ + (i : Int) * c → (∀ p ∈ Led st, p.1 ≠ I) → Fr h₀ env.locals h (fun y => if y = x then some (.int v t) else kstB u (ps st) y) →
      News h₀ env.locals h ((I, krsIt (a₀ + ((i + 1 : Nat) : Int) * c) ((n : Int) - ((i + 1 : Nat) : Int)) c) :: Led st) →
      wpAny (model prog w) A (execs body env) (TurnEnd h₀ env.locals I (krsIt (a₀ + ((i + 1 : Nat) : Int) * c) ((n : Int) - ((i + 1 : Nat) : Int)) c) ps Led (P (i + 1)) { s with heap := h, toks := tk }) E { s with heap := h, toks := tk })
    (done : ∀ st u h tk, P n st → Fr h₀ env.locals h (kstB u (ps st)) → News h₀ env.locals h (Led st) → Q .next { s with heap := h, toks := tk }) :
    wpAny (model prog w) A (pyIter (.ref r)) (fun it s₂ => LoopAtV prog w A h₀ env x body Q E it s₂) E s :=
  krs_iter hh hr hsmall hn F N fun I hI => krs_st ps Led P (turn I) done n 0 m₀ _ st₀ (by omega) h0 hps rfl fun p hp => Nat.ne_of_lt (hI p hp)
end

/-! a bytes unpacked -/
section
variable {prog : Program} {w : World} {A : Around} {E : Value → Shared → Prop} {s : Shared} {env : Env}
theorem bdraw {it : Addr} {b : Array UInt8} {t : Tok} : ∀ (n i : Nat) (s : Shared) (Q : List Value → Shared → Prop), KBw.IsBytesIter s.heap it b t i → i + n ≤ b.size →
    (∀ h' vs tk, KBw.IsBytesIter h' it b t (i + n) → Heap.SameBut it s.heap h' → IntsAre vs (((KBw.bInts b).drop i).take n) → Q vs { s with heap := h', toks := tk }) → wpAny (model prog w) A (draw (.ref it) n) Q E s
  | 0, i, s, Q, hit, _, hQ => by
    show wpAny _ _ (pure []) Q E s
    exact wpAny_pure (hQ s.heap [] s.toks hit (Heap.SameBut.refl ..) (by rw [List.take_zero]; exact .nil))
  | n + 1, i, s, Q, hit, hle, hQ => by
    have hlt : i < b.size := by omega
    show wpAny _ _ (pyNext (.ref it) >>= _) Q E s
    refine wpAny_bind (KBw.next_item hit (c := b[i]) (by simp [hlt]) fun h₁ hit₁ hs₁ => ?_)
    refine wpAny_bind (wpAny_holding (bdraw n (i + 1) _ _ hit₁ (by omega) fun h₂ vs tk hit₂ hs₂ hi => wpAny_pure ?_))
    refine hQ h₂ _ tk (by rw [show i + (n + 1) = i + 1 + n by omega]; exact hit₂) (hs₁.trans hs₂) ?_
    have hlt' : i < (KBw.bInts b).length := by rw [KBw.ints_length]; exact hlt
    rw [List.drop_eq_getElem_cons hlt', List.take_succ_cons]
    have e : (KBw.bInts b)[i] = (b[i].toNat : Int) := by simp [KBw.bInts]
    rw [e]
    exact .cons _ _ hi

theorem unpackItems_bytes {b : Array UInt8} {t : Tok} {Q : List Value → Shared → Prop} (hh : A.handled = none)
    (hQ : ∀ h' vs tk, Heap.ExtBut s.heap.objs.size s.heap h' → IntsAre vs (KBw.bInts b) → Q vs { s with heap := h', toks := tk }) : wpAny (model prog w) A (unpackItems (.bytes b t) b.size none) Q E s := by
  unfold unpackItems
  refine wpAny_bind ?_
  unfold notIterableAtAll
  refine wpAny_bind (wpAny_specialOf (typeIs_bytes s b t) FB.slot_bytes_iter.lookup ?_)
  refine wpAny_pure ?_
  simp only [Bool.false_eq_true, if_false]
  refine wpAny_bind (wpAny_holding (KBw.pyIter_bytes ?_))
  refine wpAny_bind (wpAny_holding (bdraw b.size 0 _ _ ⟨_, Heap.get?_push_size _ rfl, rfl, rfl⟩ (by omega) fun h₁ vs tk hit₁ hs₁ hi => ?_))
  have hlen := hi.length
  rw [List.drop_zero, List.take_of_length_le (by rw [KBw.ints_length]; exact Nat.le_refl _)] at hi
  rw [if_neg (by have := hi.length; rw [KBw.ints_length] at this; omega)]
  refine wpAny_bind (wpAny_holding (KBw.next_end hh hit₁ (by simp) fun h₂ he₂ => ?_))
  simp only [Option.isSome_none, Bool.false_eq_true, if_false]
  exact wpAny_pure (hQ h₂ vs _ (fun o' ob hb e => he₂ o' ob hb (hs₁.extBut o' ob hb (Heap.get?_push_of_some _ e))) hi)

theorem assign_bytes {h₀ : Heap} {L : Addr} {m : Str → Option Value} {news : List (Addr × Obj)} {elts : List Expr} {k : Nat} {pos : Pos} {b : Array UInt8} {t : Tok} {ks : List Int} {Q : Unit → Shared → Prop} (F : Fr h₀ L s.heap m) (N : News h₀ L s.heap news) (hk : KBw.bInts b = ks)
    (hh : A.handled = none) (hn : (assignEach elts env).length = ks.length) (hstar : (assignEach elts env).findIdx? (·.1) = none)
    (h : ∀ h' vs tk, Fr h₀ L h' m → News h₀ L h' news → IntsAre vs ks → wpAny (model prog w) A (assignInOrder ((assignEach elts env).map (·.2)) vs) Q E { s with heap := h', toks := tk }) :
    wpAny (model prog w) A (assign (.Tuple elts k pos) env (.bytes b t)) Q E s := by
  subst hk
  rw [assign_Tuple]
  refine wpAny_bind (wpAny_standAt ?_)
  unfold unpack
  rw [hn, hstar, KBw.ints_length]
  refine wpAny_bind (wpAny_holding (unpackItems_bytes hh fun h' vs tk he hi => ?_))
  exact h h' vs tk (F.extBut he (Nat.le_refl _)) (N.extBut he (Nat.le_refl _)) hi
end
end Mine

-- W2
namespace Mine
def bt (ks : List Int) (j : Nat) : Nat := (ks.getD j 0).toNat
def wd (ks : List Int) (i : Nat) : Nat := bt ks (4 * i) + 256 * bt ks (4 * i + 1) + 65536 * bt ks (4 * i + 2) + 16777216 * bt ks (4 * i + 3)
theorem bt_lt {b : Array UInt8} {ks : List Int} (hk : KBw.bInts b = ks) (j : Nat) : bt ks j < 256 := by
  unfold bt
  by_cases h : j < ks.length
  · have e : ks.getD j 0 = ks[j] := by simp [List.getD, h]
    have := KBw.ints_in (b := b) (k := ks[j]) (by rw [hk]; exact List.getElem_mem h)
    omega
  · have e : ks.getD j 0 = 0 := by simp [List.getD, h]
    rw [e]; decide
theorem bt_eq {b : Array UInt8} {ks : List Int} (hk : KBw.bInts b = ks) {j : Nat} (h : j < ks.length) : ks[j] = (bt ks j : Int) := by
  unfold bt
  have e : ks.getD j 0 = ks[j] := by simp [List.getD, h]
  have := KBw.ints_in (b := b) (k := ks[j]) (by rw [hk]; exact List.getElem_mem h)
  omega
theorem slice4 {b : Array UInt8} {ks : List Int} (hk : KBw.bInts b = ks) {i : Nat} {v : Int} (hl : ks.length = 64) (hi : i < 16) (hv : v = 0 + (i : Int) * 4) :
    List.take (clipAt ks.length (v + 4) - clipAt ks.length v) (List.drop (clipAt ks.length v) ks) = [(bt ks (4 * i) : Int), (bt ks (4 * i + 1) : Int), (bt ks (4 * i + 2) : Int), (bt ks (4 * i + 3) : Int)] := by
  have e1 : clipAt ks.length (v + 4) = 4 * i + 4 := by unfold clipAt; omega
  have e2 : clipAt ks.length v = 4 * i := by unfold clipAt; omega
  rw [e1, e2, show 4 * i + 4 - 4 * i = 4 by omega]
  rw [List.drop_eq_getElem_cons (by omega), List.drop_eq_getElem_cons (by omega), List.drop_eq_getElem_cons (by omega), List.drop_eq_getElem_cons (by omega)]
  simp only [List.take_succ_cons, List.take_zero]
  rw [bt_eq hk, bt_eq hk, bt_eq hk, bt_eq hk]
def Stop (P : Prop) : Prop := P
theorem Stop.out {P : Prop} (h : Stop P) : P := h

theorem ints4 {vs : List Value} {a b c d : Int} (h : IntsAre vs [a, b, c, d]) : ∃ t0 t1 t2 t3, vs = [.int a t0, .int b t1, .int c t2, .int d t3] := by
  obtain ⟨t0, vs0, rfl, h0⟩ := h.cons_inv
  obtain ⟨t1, vs1, rfl, h1⟩ := h0.cons_inv
  obtain ⟨t2, vs2, rfl, h2⟩ := h1.cons_inv
  obtain ⟨t3, vs3, rfl, h3⟩ := h2.cons_inv
  exact ⟨t0, t1, t2, t3, by rw [h3.nil_inv]⟩
theorem all_ne {l : List (Addr × Obj)} {D : Addr} (h : ∀ p ∈ l, p.1 < D) : ∀ p ∈ l, p.1 ≠ D := fun p hp => Nat.ne_of_lt (h p hp)
local macro_rules | `(tactic| k_all) => `(tactic| exact all_ne (by assumption))
theorem or_shift (x y k : Nat) (h : x < 2 ^ k) : Builtin.bitOr (x : Int) ((y : Int) * 2 ^ Int.toNat (k : Int)) = ((x + 2 ^ k * y : Nat) : Int) := by
  have e : ((y : Int) * 2 ^ Int.toNat (k : Int)) = ((2 ^ k * y : Nat) : Int) := by rw [Int.toNat_natCast]; push_cast; rw [Int.mul_comm]
  rw [e, bor_nn, Nat.or_comm, ← Nat.two_pow_add_eq_or_of_lt h, Nat.add_comm]
theorem word_or {ks : List Int} {i : Nat} (q0 : bt ks (4 * i) < 256) (q1 : bt ks (4 * i + 1) < 256) (q2 : bt ks (4 * i + 2) < 256) (q3 : bt ks (4 * i + 3) < 256) :
    Builtin.bitOr (Builtin.bitOr (Builtin.bitOr (↑(bt ks (4 * i))) (↑(bt ks (4 * i + 1)) * 2 ^ Int.toNat 8)) (↑(bt ks (4 * i + 2)) * 2 ^ Int.toNat 16)) (↑(bt ks (4 * i + 3)) * 2 ^ Int.toNat 24) = ((wd ks i : Nat) : Int) := by
  have a := or_shift (bt ks (4 * i)) (bt ks (4 * i + 1)) 8 q0
  have b := or_shift (bt ks (4 * i) + 2 ^ 8 * bt ks (4 * i + 1)) (bt ks (4 * i + 2)) 16 (by omega)
  have c := or_shift (bt ks (4 * i) + 2 ^ 8 * bt ks (4 * i + 1) + 2 ^ 16 * bt ks (4 * i + 2)) (bt ks (4 * i + 3)) 24 (by omega)
  rw [show ((8 : Nat) : Int) = 8 from rfl] at a
  rw [show ((16 : Nat) : Int) = 16 from rfl] at b
  rw [show ((24 : Nat) : Int) = 24 from rfl] at c
  rw [a, b, c, wd]
theorem snoc_obj (us : List Value) (x : Value) : listOf (us.toArray.push x) (us.length + 1) = listOf (us ++ [x]).toArray (us ++ [x]).length := by simp
theorem range_snoc {us : List Value} {x : Int} {t : Tok} {i : Nat} {f : Nat → Int} (h : IntsAre us ((List.range i).map f)) (e : x = f i) : IntsAre (us ++ [.int x t]) ((List.range (i + 1)).map f) := by
  subst e
  rw [List.range_succ, List.map_append]
  exact h.append (.cons _ _ .nil)

theorem Stop.in {P : Prop} (h : P) : Stop P := h
theorem news_head {h₀ h : Heap} {L D : Addr} {o : Obj} {r : List (Addr × Obj)} (_ : News h₀ L h ((D, o) :: r)) : ∃ D', D' = D := ⟨D, rfl⟩
local macro_rules | `(tactic| walk_at $k) => if ["pyIter ref", "assign Tuple"].contains k.getString then `(tactic| refine Stop.out ?_) else Lean.Macro.throwUnsupported
section
variable {w : World} {p : Program} {loose : List Str} {mean : ExcName → Option Value} {mg mb : Str → Option Value}

theorem block_words_tl (news : List (Addr × Obj)) (b : Array UInt8) (t : Tok) (ks : List Int) (hk : KBw.bInts b = ks) (hl : ks.length = 64) :
   Tl w p loose mean mg mb 40 news [.bytes b t] 1 (fun tl r => ∃ a us n, r = .ref a ∧ tl = [(a, listOf us.toArray n)] ∧ IntsAre us ((List.range 16).map fun i => (wd ks i : Int))) := by
  w_top off
  unfold Tl
  k_fill
  intro dp un gd cn cs a ccd cl outer A₀ base h₀ L m s Q E B F X N T hkf hd hu hret
  refine wpAny_call ?_
  k_dflt ktr_enter
  k_steps
  refine Stop.in ?_
  with_reducible rename Fr _ _ _ _ => lF
  with_reducible rename News _ _ _ _ => lN
  rename IsRange _ _ _ _ _ _ _ _ => rgX
  obtain ⟨D, eD⟩ := news_head lN
  subst eD
  refine range_st (σ := List Value) (fun _ => [(Str.ofString "found", .ref D), (Str.ofString "block", .bytes b t)]) (fun us => (D, listOf us.toArray us.length) :: news) (fun i us => IntsAre us ((List.range i).map fun j => (wd ks j : Int))) [] 16 (by rfl) rgX (by decide) (by decide) lF lN ?_ ?_ ?_ ?_
  · exact .nil
  · k_dflt (simp only [List.forall_mem_cons]; refine ⟨by with_unfolding_all rfl, by with_unfolding_all rfl, fun _ h => nomatch h⟩)
  · clear lF lN rgX
    intro I us i u v t' h tk hi hP hv off lF lN
    have hlen : us.length = i := by have := hP.length; simpa using this
    have nID : @Ne Nat I D := fun e => off _ (.head _) e.symm
    have q0 := bt_lt hk (4 * i)
    have q1 := bt_lt hk (4 * i + 1)
    have q2 := bt_lt hk (4 * i + 2)
    have q3 := bt_lt hk (4 * i + 3)
    k_steps
    refine Stop.in ?_
    refine assign_bytes (by k_asm) (by k_asm) ((by assumption : KBw.bInts (KBy.picked _ _ _) = _).trans (slice4 hk hl hi hv)) (by rfl) (by rfl) (by rfl) ?_
    intro h' vs' tk' F' N' hI'
    obtain ⟨t0', t1', t2', t3', rfl⟩ := ints4 hI'
    clear hI'
    (try k_sweep)
    k_steps
    with_reducible rename Fr _ _ _ _ => lF
    with_reducible rename News _ _ _ _ => lN
    rw [snoc_obj] at lN
    refine TurnEnd.next (us ++ [_]) lF lN ?_ (fun _ h => h) ?_ (range_snoc hP (word_or q0 q1 q2 q3))
    · k_dflt (simp only [List.forall_mem_cons]; refine ⟨by with_unfolding_all rfl, by with_unfolding_all rfl, fun _ h => nomatch h⟩)
    · intro p hp
      rcases List.mem_cons.mp hp with rfl | hp
      · exact fun e => nID e.symm
      · exact off p (.tail _ hp)
  · clear lF lN rgX
    intro us u h tk hP lF lN
    k_steps
    exact hret _ [_] _ _ (by k_asm) (by k_asm) (ktn_ord1 (by ktn_lt)) ⟨_, _, _, rfl, rfl, hP⟩
end
end Mine

-- SP
namespace Mine
def sineL : List Nat := [3614090360, 3905402710, 606105819, 3250441966, 4118548399, 1200080426, 2821735955, 4249261313, 1770035416, 2336552879, 4294925233, 2304563134, 1804603682, 4254626195, 2792965006, 1236535329, 4129170786, 3225465664, 643717713, 3921069994, 3593408605, 38016083, 3634488961, 3889429448, 568446438, 3275163606, 4107603335, 1163531501, 2850285829, 4243563512, 1735328473, 2368359562, 4294588738, 2272392833, 1839030562, 4259657740, 2763975236, 1272893353, 4139469664, 3200236656, 681279174, 3936430074, 3572445317, 76029189, 3654602809, 3873151461, 530742520, 3299628645, 4096336452, 1126891415, 2878612391, 4237533241, 1700485571, 2399980690, 4293915773, 2240044497, 1873313359, 4264355552, 2734768916, 1309151649, 4149444226, 3174756917, 718787259, 3951481745]
def sineN (k : Nat) : Nat := sineL.getD k 0
def turnL : List Nat := [7, 12, 17, 22, 5, 9, 14, 20, 4, 11, 16, 23, 6, 10, 15, 21]
def turnN (k : Nat) : Nat := turnL.getD (4 * (k / 16) + k % 4) 0
theorem turn_ok : ∀ k, k < 64 → 0 < turnN k ∧ turnN k < 32 := by decide
abbrev S4 : Type := Nat × Nat × Nat × Nat
def stepN (W : Nat → Nat) (k : Nat) (x : S4) : S4 :=
  (x.2.2.2, (x.2.1 + rotl ((x.1 + mixN k x.2.1 x.2.2.1 x.2.2.2 + sineN k + W (plc k)) % 4294967296) (turnN k)) % 4294967296, x.2.1, x.2.2.1)
def rounds (W : Nat → Nat) : Nat → S4 → S4
  | 0, x => x
  | n + 1, x => stepN W n (rounds W n x)
def blockN (W : Nat → Nat) (x : S4) : S4 :=
  let y := rounds W 64 x
  ((x.1 + y.1) % 4294967296, (x.2.1 + y.2.1) % 4294967296, (x.2.2.1 + y.2.2.1) % 4294967296, (x.2.2.2 + y.2.2.2) % 4294967296)
def Ok4 (x : S4) : Prop := x.1 < 4294967296 ∧ x.2.1 < 4294967296 ∧ x.2.2.1 < 4294967296 ∧ x.2.2.2 < 4294967296
theorem stepN_ok {W : Nat → Nat} {k : Nat} {x : S4} (h : Ok4 x) : Ok4 (stepN W k x) := ⟨h.2.2.2, Nat.mod_lt _ (by decide), h.2.1, h.2.2.1⟩
theorem rounds_ok {W : Nat → Nat} {x : S4} (h : Ok4 x) : ∀ n, Ok4 (rounds W n x)
  | 0 => h
  | n + 1 => stepN_ok (rounds_ok h n)
theorem blockN_ok {W : Nat → Nat} {x : S4} : Ok4 (blockN W x) := ⟨Nat.mod_lt _ (by decide), Nat.mod_lt _ (by decide), Nat.mod_lt _ (by decide), Nat.mod_lt _ (by decide)⟩

/-! the top's tables -/
def sineV : List Value := [.int 3614090360 215, .int 3905402710 216, .int 606105819 217, .int 3250441966 218, .int 4118548399 219, .int 1200080426 220, .int 2821735955 221, .int 4249261313 222, .int 1770035416 223, .int 2336552879 224, .int 4294925233 225, .int 2304563134 226, .int 1804603682 227, .int 4254626195 228, .int 2792965006 229, .int 1236535329 230, .int 4129170786 231, .int 3225465664 232, .int 643717713 233, .int 3921069994 234, .int 3593408605 235, .int 38016083 236, .int 3634488961 237, .int 3889429448 238, .int 568446438 239, .int 3275163606 240, .int 4107603335 241, .int 1163531501 242, .int 2850285829 243, .int 4243563512 244, .int 1735328473 245, .int 2368359562 246, .int 4294588738 247, .int 2272392833 248, .int 1839030562 249, .int 4259657740 250, .int 2763975236 251, .int 1272893353 252, .int 4139469664 253, .int 3200236656 254, .int 681279174 255, .int 3936430074 256, .int 3572445317 257, .int 76029189 258, .int 3654602809 259, .int 3873151461 260, .int 530742520 261, .int 3299628645 262, .int 4096336452 263, .int 1126891415 264, .int 2878612391 265, .int 4237533241 266, .int 1700485571 267, .int 2399980690 268, .int 4293915773 269, .int 2240044497 270, .int 1873313359 271, .int 4264355552 272, .int 2734768916 273, .int 1309151649 274, .int 4149444226 275, .int 3174756917 276, .int 718787259 277, .int 3951481745 278]
theorem K21 (w : World) : (hd.heap_39 w.params).lookup 21 = some { cls := .type "tuple", dict := none, data := .seq sineV.toArray 0, slots := #[] } := by rfl
theorem sine_at : ∀ i, i < 64 → sineV[i]? = some (.int ((sineN i : Nat) : Int) (215 + i)) := by decide +kernel
theorem K20 (w : World) : (hd.heap_39 w.params).lookup 20 = some { cls := .type "tuple", dict := none, data := .seq [Value.ref 16, .ref 17, .ref 18, .ref 19].toArray 0, slots := #[] } := by rfl
def turnV (r : Nat) : List Value := (List.range 4).map fun j => .int ((turnL.getD (4 * r + j) 0 : Nat) : Int) (198 + 4 * r + j)
theorem K16 (w : World) : ∀ r, r < 4 → (hd.heap_39 w.params).lookup (16 + r) = some { cls := .type "tuple", dict := none, data := .seq (turnV r).toArray 0, slots := #[] } := by
  intro r hr
  rcases r with _ | _ | _ | _ | r
  · rfl
  · rfl
  · rfl
  · rfl
  · omega
section
variable {w : World} {A : Around} {E : Value → Shared → Prop} {s : Shared} {g : Heap} {L : Addr} {m : Str → Option Value}
theorem seqIndex_nat {n i : Nat} (h : i < n) : seqIndex? (i : Int) n = some i := by
  unfold seqIndex?
  have e : ¬ ((i : Int) < 0) := by omega
  simp only [e, if_false]
  simp; omega
theorem sub_sine {value slice : Expr} {i : Nat} {u : Tok} {Q : Value → Shared → Prop} (F : Fr g L s.heap m) (X : (hd.heap_39 w.params).In g) (hi : i < 64) (h : ∀ t, Q (.int ((sineN i : Nat) : Int) t) s)
    (hs : subscripted slice false (.ref 21) (.int (i : Int) u) = operate [.ref 21, .int (i : Int) u] (getItem (.ref 21) (.int (i : Int) u)) := by with_unfolding_all rfl) :
    wpAny (model PySem.Challenge.rw_pc0356_01.row.prog w) A (subscriptTail value slice (.ref 21) (.int (i : Int) u)) Q E s :=
  topTup_K F X (K21 w) (by omega) (by omega) (j := i) (seqIndex_nat (show i < sineV.length from hi)) (sine_at i hi) (h _) hs
theorem sub_turns {value slice : Expr} {i : Nat} {k : Int} {u : Tok} {Q : Value → Shared → Prop} (F : Fr g L s.heap m) (X : (hd.heap_39 w.params).In g) (hk : k = ((i / 16 : Nat) : Int)) (hi : i < 64) (h : Q (.ref (16 + i / 16)) s)
    (hs : subscripted slice false (.ref 20) (.int k u) = operate [.ref 20, .int k u] (getItem (.ref 20) (.int k u)) := by with_unfolding_all rfl) :
    wpAny (model PySem.Challenge.rw_pc0356_01.row.prog w) A (subscriptTail value slice (.ref 20) (.int k u)) Q E s := by
  subst hk
  refine topTup_K F X (K20 w) (by omega) (by omega) (j := i / 16) (seqIndex_nat (show i / 16 < 4 by omega)) ?_ h hs
  have : ∀ r, r < 4 → ([Value.ref 16, .ref 17, .ref 18, .ref 19] : List Value)[r]? = some (.ref (16 + r)) := by decide +kernel
  exact this _ (by omega)
theorem sub_turn {value slice : Expr} {i : Nat} {k : Int} {u : Tok} {Q : Value → Shared → Prop} (F : Fr g L s.heap m) (X : (hd.heap_39 w.params).In g) (hk : k = ((i % 4 : Nat) : Int)) (hi : i < 64) (h : ∀ t, Q (.int ((turnN i : Nat) : Int) t) s)
    (hs : subscripted slice false (.ref (16 + i / 16)) (.int k u) = operate [.ref (16 + i / 16), .int k u] (getItem (.ref (16 + i / 16)) (.int k u)) := by with_unfolding_all rfl) :
    wpAny (model PySem.Challenge.rw_pc0356_01.row.prog w) A (subscriptTail value slice (.ref (16 + i / 16)) (.int k u)) Q E s := by
  subst hk
  refine topTup_K F X (K16 w (i / 16) (by omega)) (by omega) (by omega) (j := i % 4) (seqIndex_nat (show i % 4 < (turnV (i / 16)).length by simp [turnV]; omega)) ?_ (h (198 + 4 * (i / 16) + i % 4)) hs
  unfold turnV turnN
  simp [show i % 4 < 4 by omega]
theorem sub_list {value slice : Expr} {news : List (Addr × Obj)} {a : Addr} {us : List Value} {n : Nat} {ns : List Int} {j : Nat} {x : Int} {u : Tok} {Q : Value → Shared → Prop} (N : News g L s.heap news) (hm : (a, listOf us.toArray n) ∈ news) (hI : IntsAre us ns) (hj : ns[j]? = some x) (hz : j < 2 ^ 60) (h : ∀ t, Q (.int x t) s)
    (hs : subscripted slice false (.ref a) (.int (j : Int) u) = operate [.ref a, .int (j : Int) u] (getItem (.ref a) (.int (j : Int) u)) := by with_unfolding_all rfl) :
    wpAny (model PySem.Challenge.rw_pc0356_01.row.prog w) A (subscriptTail value slice (.ref a) (.int (j : Int) u)) Q E s := by
  obtain ⟨t, hx⟩ := hI.get j x hj
  have hl : s.heap.IsList a us.toArray := ⟨_, (N _ hm).1, rfl, n, rfl⟩
  exact tail_any hl.typeIs slot_list_getitem.lookup (wpAny_getItem_list hl (by omega) (by omega) (by simpa using hx) (h t)) hs
end
end Mine

-- ZP
namespace Mine
open Sem (wp)

/-! two sequences (lists or tuples) zipped -/
def sqN (t : Bool) : String := if t then "tuple" else "list"
def sqI (t : Bool) : String := if t then "tuple_iterator" else "list_iterator"
def SqAt (t : Bool) (h : Heap) (l : Addr) (xs : Array Value) : Prop := ∃ o, h.get? l = some o ∧ o.cls = .type (sqN t) ∧ ∃ n, o.data = .seq xs n
def SqIt (t : Bool) (h : Heap) (it l : Addr) (k : Nat) : Prop := ∃ o, h.get? it = some o ∧ o.cls = .type (sqI t) ∧ o.data = .fields #[.ref l, .int k 0]
theorem SqAt.at {t : Bool} {h h' : Heap} {l : Addr} {xs : Array Value} (x : SqAt t h l xs) (e : ∀ o, h.get? l = some o → h'.get? l = some o) : SqAt t h' l xs := let ⟨o, ho, r⟩ := x; ⟨o, e o ho, r⟩
theorem SqIt.at {t : Bool} {h h' : Heap} {it l : Addr} {k : Nat} (x : SqIt t h it l k) (e : ∀ o, h.get? it = some o → h'.get? it = some o) : SqIt t h' it l k := let ⟨o, ho, r⟩ := x; ⟨o, e o ho, r⟩
theorem SqAt.lt {t : Bool} {h : Heap} {l : Addr} {xs : Array Value} (x : SqAt t h l xs) : l < h.objs.size := let ⟨_, ho, _⟩ := x; Heap.lt_size ho
theorem SqIt.lt {t : Bool} {h : Heap} {it l : Addr} {k : Nat} (x : SqIt t h it l k) : it < h.objs.size := let ⟨_, ho, _⟩ := x; Heap.lt_size ho
section
variable {prog : Program} {w : World} {A : Around} {E : Value → Shared → Prop} {s : Shared}
theorem sq_iter {t : Bool} {l : Addr} {xs : Array Value} {Q : Value → Shared → Prop} (h : SqAt t s.heap l xs)
    (hQ : ∀ h', SqIt t h' s.heap.objs.size l 0 → h'.objs.size = s.heap.objs.size + 1 → (∀ c o, s.heap.get? c = some o → h'.get? c = some o) → Q (.ref s.heap.objs.size) { s with heap := h' }) : wpAny (model prog w) A (pyIter (.ref l)) Q E s := by
  cases t with
  | false => exact wpAny_pyIter_list h (hQ _ ⟨_, Heap.get?_push_size _ rfl, rfl, rfl⟩ (Heap.size_push _ _) fun c o e => Heap.get?_push_of_some _ e)
  | true => exact wpAny_pyIter_tuple h (hQ _ ⟨_, Heap.get?_push_size _ rfl, rfl, rfl⟩ (Heap.size_push _ _) fun c o e => Heap.get?_push_of_some _ e)
theorem tup_draw {it t : Addr} {i : Nat} {xs : Array Value} {x : Value} {Q : Value → Shared → Prop} (hit : s.heap.IsTupleIter it t i) (ht : s.heap.IsTuple t xs) (hx : xs[i]? = some x)
    (hQ : ∀ h', h'.IsTupleIter it t (i + 1) → Heap.SameBut it s.heap h' → Q x { s with heap := h' }) : wpAny (model prog w) A (Builtin.SmallTypes.nextOf (.ref it)) Q E s := by
  obtain ⟨o, ho, hc, hd⟩ := id hit
  obtain ⟨ol, hol, _, nl, hdl⟩ := ht
  unfold Builtin.SmallTypes.nextOf
  refine wpAny_bind (wpAny_callSpecial?_slot (name := Str.ofString "__next__") hit.typeIs F.slot_tuple_iterator_next
    (wpAny_call_entry F.slot_tuple_iterator_next hit.typeIs F.entry_tuple_iterator_next ?_ (F.args_tuple_iterator_next_1 _)))
  show wpAny _ _ (field (.ref it) 0 >>= _) _ _ s
  refine wpAny_bind (wpAny_field ho hd (x := .ref t) rfl ?_)
  refine bm_if_false rfl ?_
  show wpAny _ _ (field (.ref it) 1 >>= _) _ _ s
  refine wpAny_bind (wpAny_field ho hd (x := .int i 0) rfl ?_)
  show wpAny _ _ (seqItems? (.ref t) >>= _) _ _ s
  refine wpAny_bind (wpAny_seqItems hol hdl ?_)
  simp only [Int.toNat_natCast, hx]
  refine wpAny_bind (wpAny_setField ho hd (by simp) (wpAny_pure ⟨x, rfl, wpAny_pure (hQ _ ?_ (Heap.SameBut.update ..))⟩))
  exact ⟨_, Heap.get?_update_self _ ho (Obj.isFreed_of_fields (Obj.data_mapFields hd _)), (Obj.cls_mapFields ..).trans hc, by
    rw [Obj.data_mapFields hd]; simp [rawInt]⟩
theorem tup_stop {it t : Addr} {i : Nat} {xs : Array Value} {Q : Value → Shared → Prop} (hh : A.handled = none) (hit : s.heap.IsTupleIter it t i) (ht : s.heap.IsTuple t xs) (hx : xs[i]? = none)
    (hE : ∀ h' e, Heap.ExtBut it s.heap h' → (∃ o, h'.get? e = some o ∧ o.cls = .type "StopIteration") → E (.ref e) { s with heap := h' }) : wpAny (model prog w) A (Builtin.SmallTypes.nextOf (.ref it)) Q E s := by
  obtain ⟨o, ho, hc, hd⟩ := id hit
  obtain ⟨ol, hol, _, nl, hdl⟩ := ht
  unfold Builtin.SmallTypes.nextOf
  refine wpAny_bind (wpAny_callSpecial?_slot (name := Str.ofString "__next__") hit.typeIs F.slot_tuple_iterator_next
    (wpAny_call_entry F.slot_tuple_iterator_next hit.typeIs F.entry_tuple_iterator_next ?_ (F.args_tuple_iterator_next_1 _)))
  show wpAny _ _ (field (.ref it) 0 >>= _) _ _ s
  refine wpAny_bind (wpAny_field ho hd (x := .ref t) rfl ?_)
  refine bm_if_false rfl ?_
  show wpAny _ _ (field (.ref it) 1 >>= _) _ _ s
  refine wpAny_bind (wpAny_field ho hd (x := .int i 0) rfl ?_)
  show wpAny _ _ (seqItems? (.ref t) >>= _) _ _ s
  refine wpAny_bind (wpAny_seqItems hol hdl ?_)
  simp only [Int.toNat_natCast, hx]
  refine wpAny_bind (wpAny_rule (wpAny_bind (wpAny_setField ho hd (by simp) ?_)))
  show wpAny _ _ (newExc (.type "StopIteration") [] >>= _) _ _ _
  refine wpAny_bind ?_
  simp only [newExc, newTuple]
  refine wpAny_bind (wpAny_newObj_type ?_ (by size_fits))
  refine wpAny_bind (m := firstArgMember _ _) (wpAny_of_eq (a := Value.none) (by first | rfl | (simp only [firstArgMember]; rfl)) ?_)
  refine wpAny_newObj_type ?_ (by size_fits)
  simp only [raiseNew]
  refine wpAny_bind (wpAny_handled ?_)
  first | rw [show A.in1.handled = none from hh] | rw [hh]
  refine wpAny_bind (wpAny_pure (wpAny_throw ?_))
  exact hE _ _ (((Heap.SameBut.update ..).extBut.push _).push _) ⟨_, Heap.get?_push_size _ rfl, rfl⟩
theorem sq_draw {t : Bool} {it l : Addr} {k : Nat} {xs : Array Value} {x : Value} {Q : Value → Shared → Prop} (hi : SqIt t s.heap it l k) (hl : SqAt t s.heap l xs) (hx : xs[k]? = some x)
    (hQ : ∀ h', SqIt t h' it l (k + 1) → Heap.SameBut it s.heap h' → Q x { s with heap := h' }) : wpAny (model prog w) A (Builtin.SmallTypes.nextOf (.ref it)) Q E s := by
  cases t with
  | false => exact wpAny_nextOf_list_item hi hl hx hQ
  | true => exact tup_draw hi hl hx hQ
theorem sq_stop {t : Bool} {it l : Addr} {k : Nat} {xs : Array Value} {Q : Value → Shared → Prop} (hh : A.handled = none) (hi : SqIt t s.heap it l k) (hl : SqAt t s.heap l xs) (hx : xs[k]? = none)
    (hE : ∀ h' e, Heap.ExtBut it s.heap h' → (∃ o, h'.get? e = some o ∧ o.cls = .type "StopIteration") → E (.ref e) { s with heap := h' }) : wpAny (model prog w) A (Builtin.SmallTypes.nextOf (.ref it)) Q E s := by
  cases t with
  | false => exact wpAny_nextOf_list_end hh hi hl hx hE
  | true => exact tup_stop hh hi hl hx hE
end

/-- the zip's five objects, free to draw, its sequences -/
structure ZSt (t : Bool) (z TI TO i1 i2 l1 l2 : Addr) (xs ys : Array Value) (f0 : Value) (k : Nat) (h : Heap) : Prop where
  zip : IsZip h z TI TO f0
  its : IsPair h TI (.ref i1) (.ref i2)
  own : ∃ a b, IsPair h TO a b
  it1 : SqIt t h i1 l1 k
  it2 : SqIt t h i2 l2 k
  sq1 : SqAt t h l1 xs
  sq2 : SqAt t h l2 ys
/-- what a draw may change -/
def ZOff (z TO i1 i2 : Addr) (c : Addr) : Prop := c ≠ z ∧ c ≠ TO ∧ c ≠ i1 ∧ c ≠ i2
theorem ZSt.frame {t : Bool} {z TI TO i1 i2 l1 l2 : Addr} {xs ys : Array Value} {f0 : Value} {k : Nat} {h h' : Heap} (x : ZSt t z TI TO i1 i2 l1 l2 xs ys f0 k h) (e : ∀ c, (c = z ∨ c = TI ∨ c = TO ∨ c = i1 ∨ c = i2 ∨ c = l1 ∨ c = l2) → ∀ o, h.get? c = some o → h'.get? c = some o) : ZSt t z TI TO i1 i2 l1 l2 xs ys f0 k h' where
  zip := e z (by simp) _ x.zip
  its := e TI (by simp) _ x.its
  own := let ⟨a, b, o⟩ := x.own; ⟨a, b, e TO (by simp) _ o⟩
  it1 := x.it1.at fun o => e i1 (by simp) o
  it2 := x.it2.at fun o => e i2 (by simp) o
  sq1 := x.sq1.at fun o => e l1 (by simp) o
  sq2 := x.sq2.at fun o => e l2 (by simp) o
section
variable {prog : Program} {w : World} {A : Around} {E : Value → Shared → Prop} {s : Shared}
theorem z_next {t : Bool} {z TI TO i1 i2 l1 l2 : Addr} {xs ys : Array Value} {k : Nat} {x y : Value} {Q : Option Value → Shared → Prop} (D : ZipApart z TI TO i1 i2 l1 l2) (Z : ZSt t z TI TO i1 i2 l1 l2 xs ys .none k s.heap) (hx : xs[k]? = some x) (hy : ys[k]? = some y)
    (hQ : ∀ h', ZSt t z TI TO i1 i2 l1 l2 xs ys (rawInt s.heap.objs.size) (k + 1) h' → IsPair h' s.heap.objs.size x y → (∀ c o, ZOff z TO i1 i2 c → s.heap.get? c = some o → h'.get? c = some o) → Q (some (.ref s.heap.objs.size)) { s with heap := h' }) : wpAny (model prog w) A (pyNext (.ref z)) Q E s := by
  obtain ⟨hz, hTI, ⟨a, b, hTO⟩, h1, h2, hl1, hl2⟩ := Z
  have hT : s.TypeIs (.ref z) "zip" := ⟨_, hz, rfl⟩
  unfold pyNext
  refine wpAny_bind (wpAny_attempt (wpAny_callSpecial?_slot (name := Str.ofString "__next__") hT F.slot_zip_next (wpAny_call_entry F.slot_zip_next hT F.entry_zip_next ?_ (F.args_zip_next_1 _))))
  show wpAny _ _ (field (.ref z) 2 >>= _) _ _ _
  refine wpAny_bind (wpAny_field hz rfl (x := .bool false) rfl ?_)
  show wpAny _ _ (field (.ref z) 3 >>= _) _ _ _
  refine wpAny_bind (wpAny_field hz rfl (x := .ref TI) rfl ?_)
  refine wpAny_bind (wpAny_seqItems hTI rfl ?_)
  show wpAny _ _ (Builtin.SmallTypes.ownedTupleIsFree (.ref z) >>= _) _ _ _
  refine wpAny_bind ?_
  unfold Builtin.SmallTypes.ownedTupleIsFree
  refine wpAny_bind (wpAny_field hz rfl (x := .none) rfl (wpAny_pure ?_))
  simp only [if_true]
  refine wpAny_bind (wpAny_rule (wpAny_bind (wpAny_field hz rfl (x := .ref TO) rfl ?_)))
  refine wpAny_bind (wpAny_setField_rec hz (by simp) fun g₁ z₁ s₁ => ?_)
  refine wpAny_bind ?_
  simp only [List.zipIdx_cons, List.zipIdx_nil, List.forIn_cons, List.forIn_nil]
  refine wpAny_bind (wpAny_bind (wpAny_onRaise ?_))
  show wpAny _ _ (Builtin.SmallTypes.nextOf (.ref i1) >>= _) _ _ _
  refine wpAny_bind (sq_draw (h1.at fun o => s₁.extBut _ o D.i1z) (hl1.at fun o => s₁.extBut _ o D.l1z) hx fun g₂ h1' s₂ => wpAny_pure ?_)
  have o₂ : IsPair g₂ TO a b := s₂.extBut _ _ D.TOi1 (s₁.extBut _ _ D.TOz hTO)
  refine wpAny_bind (wpAny_seqItems o₂ rfl (wpAny_bind (wpAny_updateSeq_pair o₂ fun g₃ o₃ s₃ => wpAny_bind (wpAny_letGo (wpAny_pure ?_)))))
  replace o₃ : IsPair g₃ TO x b := o₃
  refine wpAny_bind (wpAny_bind (wpAny_onRaise ?_))
  show wpAny _ _ (Builtin.SmallTypes.nextOf (.ref i2) >>= _) _ _ _
  have up3 : ∀ c o, c ≠ z → c ≠ TO → c ≠ i1 → s.heap.get? c = some o → g₃.get? c = some o := fun c o c1 c2 c3 e => s₃.extBut _ _ c2 (s₂.extBut _ _ c3 (s₁.extBut _ _ c1 e))
  refine wpAny_bind (sq_draw (h2.at fun o => up3 _ o D.i2z D.TOi2.symm D.i12.symm) (hl2.at fun o => up3 _ o D.l2z D.l2TO D.l2i1) hy fun g₄ h2' s₄ => wpAny_pure ?_)
  have o₄ : IsPair g₄ TO x b := s₄.extBut _ _ D.TOi2 o₃
  refine wpAny_bind (wpAny_seqItems o₄ rfl (wpAny_bind (wpAny_updateSeq_pair o₄ fun g₅ o₅ s₅ => wpAny_bind (wpAny_letGo (wpAny_pure (wpAny_pure ?_))))))
  replace o₅ : IsPair g₅ TO x y := o₅
  refine wpAny_bind (wpAny_seqItems o₅ rfl (wpAny_bind (wpAny_newTuple ?_)))
  have size5 : g₅.objs.size = s.heap.objs.size := by rw [s₅.1, s₄.1, s₃.1, s₂.1, s₁.1]
  have up5 : ∀ c o, ZOff z TO i1 i2 c → s.heap.get? c = some o → g₅.get? c = some o := fun c o ⟨c1, c2, c3, c4⟩ e => s₅.extBut _ _ c2 (s₄.extBut _ _ c4 (up3 c o c1 c2 c3 e))
  have z₅ : IsZip g₅ z TI TO .ellipsis := s₅.extBut _ _ D.TOz.symm (s₄.extBut _ _ D.i2z.symm (s₃.extBut _ _ D.TOz.symm (s₂.extBut _ _ D.i1z.symm z₁)))
  have h1₅ : SqIt t g₅ i1 l1 (k + 1) := h1'.at fun o e => s₅.extBut _ _ D.TOi1.symm (s₄.extBut _ _ D.i12 (s₃.extBut _ _ D.TOi1.symm e))
  have h2₅ : SqIt t g₅ i2 l2 (k + 1) := h2'.at fun o e => s₅.extBut _ _ D.TOi2.symm e
  have zlt : z < g₅.objs.size := Heap.lt_size z₅
  show wpAny _ _ (Builtin.SmallTypes.ownedTupleHandOut (.ref z) (.ref g₅.objs.size) >>= _) _ _ _
  refine wpAny_bind ?_
  unfold Builtin.SmallTypes.ownedTupleHandOut
  have z₆ : IsZip (g₅.push { cls := .type "tuple", data := .seq #[x, y] }) z TI TO .ellipsis := Heap.get?_push_of_some _ z₅
  refine wpAny_bind (wpAny_setField_rec z₆ (by simp) fun g₇ z₇ s₇ => ?_)
  refine wpAny_setField_rec z₇ (by simp) fun g₈ z₈ s₈ => ?_
  have up8 : ∀ c o, c ≠ z → g₅.get? c = some o → g₈.get? c = some o := fun c o c1 e => s₈.extBut _ _ c1 (s₇.extBut _ _ c1 (Heap.get?_push_of_some _ e))
  have p₈ : IsPair g₈ g₅.objs.size x y := s₈.extBut _ _ (Nat.ne_of_gt zlt) (s₇.extBut _ _ (Nat.ne_of_gt zlt) (Heap.get?_push_size _ rfl))
  replace z₈ : IsZip g₈ z TI TO (rawInt g₅.objs.size) := z₈
  rw [size5] at z₈ p₈
  refine wpAny_pure ⟨_, rfl, ?_⟩
  show wpAny _ _ _ _ _ _
  rw [size5]
  refine wpAny_pure (hQ g₈ ⟨z₈, up8 _ _ D.TIz (up5 _ _ ⟨D.TIz, D.TITO, D.TIi1, D.TIi2⟩ hTI), ⟨x, y, up8 _ _ D.TOz o₅⟩, h1₅.at fun o => up8 _ o D.i1z, h2₅.at fun o => up8 _ o D.i2z, hl1.at fun o e => up8 _ o D.l1z (up5 _ o ⟨D.l1z, D.l1TO, D.l1i1, D.l1i2⟩ e),
    hl2.at fun o e => up8 _ o D.l2z (up5 _ o ⟨D.l2z, D.l2TO, D.l2i1, D.l2i2⟩ e)⟩ p₈ fun c o hc e => up8 c o hc.1 (up5 c o hc e))
theorem z_stop {t : Bool} {z TI TO i1 i2 l1 l2 : Addr} {xs ys : Array Value} {k : Nat} {Q : Option Value → Shared → Prop} (hh : A.handled = none) (D : ZipApart z TI TO i1 i2 l1 l2) (Z : ZSt t z TI TO i1 i2 l1 l2 xs ys .none k s.heap) (hx : xs[k]? = none)
    (hQ : ∀ h', (∀ c o, ZOff z TO i1 i2 c → s.heap.get? c = some o → h'.get? c = some o) → Q none { s with heap := h' }) : wpAny (model prog w) A (pyNext (.ref z)) Q E s := by
  obtain ⟨hz, hTI, ⟨a, b, hTO⟩, h1, h2, hl1, hl2⟩ := Z
  have hT : s.TypeIs (.ref z) "zip" := ⟨_, hz, rfl⟩
  unfold pyNext
  refine wpAny_bind (wpAny_attempt (wpAny_callSpecial?_slot (name := Str.ofString "__next__") hT F.slot_zip_next (wpAny_call_entry F.slot_zip_next hT F.entry_zip_next ?_ (F.args_zip_next_1 _))))
  show wpAny _ _ (field (.ref z) 2 >>= _) _ _ _
  refine wpAny_bind (wpAny_field hz rfl (x := .bool false) rfl ?_)
  show wpAny _ _ (field (.ref z) 3 >>= _) _ _ _
  refine wpAny_bind (wpAny_field hz rfl (x := .ref TI) rfl ?_)
  refine wpAny_bind (wpAny_seqItems hTI rfl ?_)
  show wpAny _ _ (Builtin.SmallTypes.ownedTupleIsFree (.ref z) >>= _) _ _ _
  refine wpAny_bind ?_
  unfold Builtin.SmallTypes.ownedTupleIsFree
  refine wpAny_bind (wpAny_field hz rfl (x := .none) rfl (wpAny_pure ?_))
  simp only [if_true]
  refine wpAny_bind (wpAny_rule (wpAny_bind (wpAny_field hz rfl (x := .ref TO) rfl ?_)))
  refine wpAny_bind (wpAny_setField_rec hz (by simp) fun g₁ z₁ s₁ => ?_)
  refine wpAny_bind ?_
  simp only [List.zipIdx_cons, List.zipIdx_nil, List.forIn_cons, List.forIn_nil]
  refine wpAny_bind (wpAny_bind (wpAny_onRaise ?_))
  show wpAny _ _ (Builtin.SmallTypes.nextOf (.ref i1) >>= _) _ _ _
  refine wpAny_bind (sq_stop hh (h1.at fun o => s₁.extBut _ o D.i1z) (hl1.at fun o => s₁.extBut _ o D.l1z) hx fun g₂ e s₂ he => ?_)
  obtain ⟨oe, hoe, hce⟩ := he
  have z₂ : IsZip g₂ z TI TO .ellipsis := s₂ _ _ D.i1z.symm z₁
  have ez : e ≠ z := fun q => by subst q; rw [z₂] at hoe; cases hoe; simp at hce
  refine wpAny_setField_rec z₂ (by simp) fun g₃ _ s₃ => ?_
  refine wpAny_bind (wpAny_isInstance (T := "StopIteration") (b := true) ⟨oe, s₃.extBut _ _ ez hoe, hce⟩ isSubtype_stop ?_)
  exact wpAny_pure (hQ g₃ fun c o hc q => s₃.extBut _ _ hc.1 (s₂ _ _ hc.2.2.1 (s₁.extBut _ _ hc.1 q)))

abbrev itO (t : Bool) (l : Addr) : Obj := { cls := .type (sqI t), data := .fields #[.ref l, .int 0 0] }
abbrev zO (TI TO : Addr) : Obj := { cls := .type "zip", data := .fields #[.none, .bool false, .bool false, .ref TI, .ref TO] }
abbrev zG2 (t : Bool) (h : Heap) (l1 l2 : Addr) : Heap := (h.push (itO t l1)).push (itO t l2)
abbrev zG4 (t : Bool) (h : Heap) (l1 l2 : Addr) : Heap := ((zG2 t h l1 l2).push { cls := .type "tuple", data := .seq #[.ref h.objs.size, .ref (h.push (itO t l1)).objs.size] }).push { cls := .type "tuple", data := .seq #[.none, .none] }
abbrev zG5 (t : Bool) (h : Heap) (l1 l2 : Addr) : Heap := (zG4 t h l1 l2).push (zO (zG2 t h l1 l2).objs.size ((zG2 t h l1 l2).push { cls := .type "tuple", data := .seq #[.ref h.objs.size, .ref (h.push (itO t l1)).objs.size] }).objs.size)
theorem z_new (t : Bool) (l1 l2 : Addr) (xs ys : Array Value) :
    Meets (Builtin.«zip.__new__» ⟨[.type "zip", .ref l1, .ref l2], []⟩) (fun _ R s => SqAt t s.heap l1 xs ∧ SqAt t s.heap l2 ys ∧ R (.ok (.ret (.ref (zG4 t s.heap l1 l2).objs.size))) { s with heap := zG5 t s.heap l1 l2 }) :=
  .of_wp fun prog w A R s h => by
    obtain ⟨hp, g, d, tk, os⟩ := s
    obtain ⟨hl1, hl2, h⟩ := h
    have hsub := sub_zip
    cases t with
    | false =>
      have hL1 : Heap.IsList (Shared.heap ⟨hp, g, d, tk, os⟩) l1 xs := hl1
      have hL2 : Heap.IsList (Shared.heap ⟨hp.push { cls := .type "list_iterator", data := .fields #[.ref l1, .int 0 0] }, g, d, tk, os⟩) l2 ys := Heap.IsList.push hl2 _
      wp_walk using wpAny_pyIter_list hL1, wpAny_pyIter_list hL2
      exact ⟨_, rfl, h⟩
    | true =>
      have hL1 : Heap.IsTuple (Shared.heap ⟨hp, g, d, tk, os⟩) l1 xs := hl1
      have hL2 : Heap.IsTuple (Shared.heap ⟨hp.push { cls := .type "tuple_iterator", data := .fields #[.ref l1, .int 0 0] }, g, d, tk, os⟩) l2 ys := Heap.IsTuple.push hl2 _
      wp_walk using wpAny_pyIter_tuple hL1, wpAny_pyIter_tuple hL2
      exact ⟨_, rfl, h⟩
theorem z_call {t : Bool} {l1 l2 : Addr} {xs ys : Array Value} {Q : Value → Shared → Prop} (h1 : SqAt t s.heap l1 xs) (h2 : SqAt t s.heap l2 ys)
    (h : ∀ h', ZipApart (s.heap.objs.size + 4) (s.heap.objs.size + 2) (s.heap.objs.size + 3) s.heap.objs.size (s.heap.objs.size + 1) l1 l2 →
      ZSt t (s.heap.objs.size + 4) (s.heap.objs.size + 2) (s.heap.objs.size + 3) s.heap.objs.size (s.heap.objs.size + 1) l1 l2 xs ys .none 0 h' → (∀ c o, s.heap.get? c = some o → h'.get? c = some o) → Q (.ref (s.heap.objs.size + 4)) { s with heap := h' }) :
    wpAny (model prog w) A (call (.type "zip") [.ref l1, .ref l2]) Q E s := by
  refine callType_new F.called_zip (by decide) (F.typeCall_zip_2 _ _) (F.newCall_zip_2 _ _) (fun obj => F.args_object_init_3 obj _ _) F.entry_zip_new (z_new t l1 l2 xs ys) ⟨h1, h2, ?_⟩
  have e1 : (s.heap.push (itO t l1)).objs.size = s.heap.objs.size + 1 := Heap.size_push _ _
  have e2 : (zG2 t s.heap l1 l2).objs.size = s.heap.objs.size + 2 := by rw [Heap.size_push, e1]
  have e3 : ((zG2 t s.heap l1 l2).push { cls := .type "tuple", data := .seq #[.ref s.heap.objs.size, .ref (s.heap.push (itO t l1)).objs.size] }).objs.size = s.heap.objs.size + 3 := by rw [Heap.size_push, e2]
  have e4 : (zG4 t s.heap l1 l2).objs.size = s.heap.objs.size + 4 := by rw [Heap.size_push, e3]
  have up : ∀ c o, s.heap.get? c = some o → (zG5 t s.heap l1 l2).get? c = some o := fun c o e => Heap.get?_push_of_some _ (Heap.get?_push_of_some _ (Heap.get?_push_of_some _ (Heap.get?_push_of_some _ (Heap.get?_push_of_some _ e))))
  have g5 : (zG5 t s.heap l1 l2).get? (zG4 t s.heap l1 l2).objs.size = some _ := Heap.get?_push_size _ rfl
  have g4 : (zG5 t s.heap l1 l2).get? ((zG2 t s.heap l1 l2).push { cls := .type "tuple", data := .seq #[.ref s.heap.objs.size, .ref (s.heap.push (itO t l1)).objs.size] }).objs.size = some _ := Heap.get?_push_of_some _ (Heap.get?_push_size _ rfl)
  have g3 : (zG5 t s.heap l1 l2).get? (zG2 t s.heap l1 l2).objs.size = some _ := Heap.get?_push_of_some _ (Heap.get?_push_of_some _ (Heap.get?_push_size _ rfl))
  have g2 : (zG5 t s.heap l1 l2).get? (s.heap.push (itO t l1)).objs.size = some _ := Heap.get?_push_of_some _ (Heap.get?_push_of_some _ (Heap.get?_push_of_some _ (Heap.get?_push_size _ rfl)))
  have g1 : (zG5 t s.heap l1 l2).get? s.heap.objs.size = some _ := Heap.get?_push_of_some _ (Heap.get?_push_of_some _ (Heap.get?_push_of_some _ (Heap.get?_push_of_some _ (Heap.get?_push_size _ rfl))))
  show _ ∧ _
  rw [e4, e3, e2] at g5
  rw [e3] at g4
  rw [e2, e1] at g3
  rw [e1] at g2
  rw [e4]
  exact ⟨⟨_, g5, rfl⟩, h _ (zipApart_new h1.lt h2.lt) ⟨g5, g3, ⟨_, _, g4⟩, ⟨_, g1, rfl, rfl⟩, ⟨_, g2, rfl, rfl⟩, h1.at fun o => up _ o, h2.at fun o => up _ o⟩ up⟩
end
end Mine

-- ZC
namespace Mine
open PyProof.Rows.LCg PyProof.Rows.LCp

/-- a zip is at hand; what each pair's element gives; what stands behind the block -/
def ZSrc (prog : Program) (w : World) (A : Around) (h₀ : Heap) (L : Addr) (m : Str → Option Value) (env : Env) (elt : Expr) (x x₂ : Str) (scope : Scope) (cl : List (Str × Addr)) (Q : Value → Shared → Prop) (xv : Value) (s₁ : Shared) : Prop :=
  ∃ (t : Bool) (z TI TO i1 i2 l1 l2 : Addr) (xs ys : Array Value) (news : List (Addr × Obj)) (n : Nat) (ns : Nat → Int), xv = .ref z ∧ A.handled = none ∧ ZipApart z TI TO i1 i2 l1 l2 ∧ ZSt t z TI TO i1 i2 l1 l2 xs ys .none 0 s₁.heap ∧
    Fr h₀ L s₁.heap m ∧ News h₀ L s₁.heap news ∧ (∀ p ∈ news, ZOff z TO i1 i2 p.1) ∧ ZOff z TO i1 i2 L ∧ (∀ c, h₀.get? c ≠ none → ZOff z TO i1 i2 c) ∧ xs.size = n ∧ ys.size = n ∧ n ≤ sizeLine ∧
    (∀ i C m₂ a b h tk (Q' E' : Value → Shared → Prop), i < n → h.Ns C m₂ → xs[i]? = some a → ys[i]? = some b → m₂ x = some a → m₂ x₂ = some b → Fr h₀ L h m → News h₀ L h news →
      (∀ t' tk', Q' (.int (ns i) t') { s₁ with heap := h, toks := tk' }) → wpAny (model prog w) A (eval elt (compEnvC scope cl C env)) Q' E' { s₁ with heap := h, toks := tk }) ∧
    ∀ D h tk vs, Fr h₀ L h m → News h₀ L h ((D, lst vs) :: news) → (∀ p ∈ news, p.1 < D) → IntsAre vs ((List.range n).map ns) → Q (.ref D) { s₁ with heap := h, toks := tk }

section
variable {prog : Program} {w : World} {A : Around} {E : Value → Shared → Prop} {s : Shared} {h₀ : Heap} {L : Addr} {m : Str → Option Value} {env : Env}
theorem ints_snoc {us : List Value} {v : Int} {t : Tok} {i : Nat} {f : Nat → Int} (h : IntsAre us ((List.range i).map f)) (e : v = f i) : IntsAre (us ++ [.int v t]) ((List.range (i + 1)).map f) := by
  subst e
  rw [List.range_succ, List.map_append]
  exact h.append (.cons _ _ .nil)
theorem zip_comp {elt iter : Expr} {x x₂ : Str} {px px₂ tp : Pos} {tk} {scope : Scope} {cl : List (Str × Addr)} {pos : Pos} {Q : Value → Shared → Prop} (_F₀ : Fr h₀ L s.heap m)
    (hclos : closureFor scope env = pure cl) (hcell : ∀ y ∈ scope.names, y.2 ≠ .cell) (hkind : scope.kind = .function)
    (hnames : ∀ y ∈ scope.names, y.2 = .local → scope.names.lookup y.1 = some .local) (hx : scope.names.lookup x = some .local) (hx₂ : scope.names.lookup x₂ = some .local) (hxx : x ≠ x₂)
    (h : wpAny (model prog w) A (eval iter env) (ZSrc prog w A h₀ L m env elt x x₂ scope cl Q) E s)
    (hs : ∀ x, foldedSetIterable iter env x = pure x := by intro _; rfl) :
    wpAny (model prog w) A (eval (.ListComp elt [⟨.Tuple [.Name x px, .Name x₂ px₂] tk tp, iter, [], 0⟩] scope pos) env) Q E s := by
  rw [eval_ListComp]
  refine wpAny_comprehension_free (use := none) rfl hs hclos hkind hnames (wpAny_mono h (fun xv s₁ h₁ => ?_) fun _ _ e => e)
  obtain ⟨t, z, TI, TO, i1, i2, l1, l2, xs, ys, news, n, ns, rfl, hh, D, Z, F, N, off, offL, off₀, hxs, hys, hsz, helt, fin⟩ := h₁
  refine wpAny_pyIter_zip Z.zip ?_
  refine wpAny_newObj_type (wpAny_newFunctionEnv hcell (by intro y hy; simp at hy) (fun g₁ hns₁ hsb₁ => ?_) hkind)
  dsimp only at hns₁ hsb₁ ⊢
  generalize hH : s₁.heap.push { cls := .type "list", dict := none, data := .seq ([] : List Value).toArray } = H at hns₁ hsb₁ ⊢
  have hC : H.objs.size = s₁.heap.objs.size + 1 := by rw [← hH, Heap.size_push]
  generalize hDa : s₁.heap.objs.size = Da at hC
  generalize hCa : H.objs.size = Ca at hC hns₁ hsb₁
  have old : ∀ b o, s₁.heap.get? b = some o → g₁.get? b = some o := fun b o e => by
    have hb := Heap.lt_size e
    rw [hDa] at hb
    exact hsb₁.extBut b o (by rw [hC]; exact Nat.ne_of_lt (Nat.lt_succ_of_lt hb)) (Heap.get?_push_of_some _ (hH ▸ Heap.get?_push_of_some _ e))
  have hDC : Da ≠ Ca := by rw [hC]; exact Nat.ne_of_lt (Nat.lt_succ_self _)
  have hacc : g₁.get? Da = some (lst []) := hsb₁.extBut _ _ hDC (Heap.get?_push_of_some _ (hH ▸ hDa ▸ Heap.get?_push_size _ rfl))
  have lts : ∀ {c o}, s₁.heap.get? c = some o → c < Da := fun e => hDa ▸ Heap.lt_size e
  have neD : ∀ {c : Addr}, c < Da → c ≠ Da := fun h => Nat.ne_of_lt h
  have neC : ∀ {c : Addr}, c < Da → c ≠ Ca := fun h => by rw [hC]; exact Nat.ne_of_lt (Nat.lt_succ_of_lt h)
  have zlt : z < Da := lts Z.zip
  have TIlt : TI < Da := lts Z.its
  have TOlt : TO < Da := by obtain ⟨a, b, e⟩ := Z.own; exact lts e
  have i1lt : i1 < Da := hDa ▸ Z.it1.lt
  have i2lt : i2 < Da := hDa ▸ Z.it2.lt
  have l1lt : l1 < Da := hDa ▸ Z.sq1.lt
  have l2lt : l2 < Da := hDa ▸ Z.sq2.lt
  have zin : ∀ c, (c = z ∨ c = TI ∨ c = TO ∨ c = i1 ∨ c = i2 ∨ c = l1 ∨ c = l2) → c < Da := by
    rintro c (rfl | rfl | rfl | rfl | rfl | rfl | rfl) <;> assumption
  have nlt : ∀ p ∈ news, p.1 < Da := fun p hp => lts (N p hp).1
  have Llt : L < Da := by have := F.ns.lt; rwa [hDa] at this
  have new₀ : ∀ c, Da ≤ c → h₀.get? c = none := fun c hc => by
    cases e : h₀.get? c with
    | none => rfl
    | some o => exact absurd (lts (F.keep c o e)) (Nat.not_lt.mpr hc)
  have hD₀ := new₀ Da (Nat.le_refl _)
  have hC₀ := new₀ Ca (by rw [hC]; exact Nat.le_succ _)
  have offD : ZOff z TO i1 i2 Da := ⟨(neD zlt).symm, (neD TOlt).symm, (neD i1lt).symm, (neD i2lt).symm⟩
  have offC : ZOff z TO i1 i2 Ca := ⟨(neC zlt).symm, (neC TOlt).symm, (neC i1lt).symm, (neC i2lt).symm⟩
  have keepsFr : ∀ {h h' : Heap} {d : Addr}, Fr h₀ L h m → Heap.SameBut d h h' → d ≠ L → h₀.get? d = none → Fr h₀ L h' m := fun F hs a b => F.change hs a b
  have loop : ∀ s₃ : Shared, s₃ = { s₁ with heap := g₁, toks := s₁.toks + ([] : List (Str × Value)).length } →
      codeAny (model prog w) A (.compLoop (.ListComp elt [⟨.Tuple [.Name x px, .Name x₂ px₂] tk tp, iter, [], 0⟩] scope pos) 0 (.ref z) (.ref Da) (compEnvC scope cl Ca env)) (compPost (model prog w) A E none Q (.ref Da) Ca) s₃ := by
    rintro s₃ rfl
    refine codeAny_compLoop_pair (fun k s' => ∃ h' tk i vs m', s' = { s₁ with heap := h', toks := tk } ∧ i ≤ n ∧ k = n + 1 - i ∧ ZSt t z TI TO i1 i2 l1 l2 xs ys .none i h' ∧ Fr h₀ L h' m ∧ h'.Ns Ca m' ∧ h'.get? Da = some (lst vs) ∧ IntsAre vs ((List.range i).map ns) ∧ News h₀ L h' news) ?_ (n + 1)
      ⟨g₁, _, 0, [], _, rfl, Nat.zero_le _, rfl, Z.frame fun c _ o => old c o, F.keeps old, hns₁, hacc, .nil, N.grown old⟩
    rintro k s' ⟨h', tk', i, vs, m', rfl, hi, rfl, Z', F', hn', hD', hI', N'⟩
    by_cases hlt : i < n
    · have ex : xs[i]? = some xs[i] := by simp [hxs, hlt]
      have ey : ys[i]? = some ys[i] := by simp [hys, hlt]
      refine z_next D Z' ex ey fun h₂ Z₂ p₂ k₂ => ?_
      refine wpAny_letOwnedTupleGo_zip Z₂.zip fun h₃ z₃ s₃ => ?_
      have Tz : h'.objs.size ≠ z := fun q => Nat.lt_irrefl _ (q ▸ Heap.lt_size Z'.zip)
      have ht : IsTup h₃ h'.objs.size #[xs[i], ys[i]] := ⟨_, s₃.extBut _ _ Tz p₂, rfl, _, rfl⟩
      refine assign_Tuple_tuple hh ht rfl rfl fun h₄ e₄ => ?_
      have up4 : ∀ c o, ZOff z TO i1 i2 c → h'.get? c = some o → h₄.get? c = some o := fun c o hc e => by
        have q := s₃.extBut c o hc.1 (k₂ c o hc e)
        exact e₄ c o (Nat.ne_of_lt (Heap.lt_size q)) q
      have Z₄ : ZSt t z TI TO i1 i2 l1 l2 xs ys .none (i + 1) h₄ := by
        have zz : ZSt t z TI TO i1 i2 l1 l2 xs ys .none (i + 1) h₃ := ⟨z₃, s₃.extBut _ _ D.TIz Z₂.its, let ⟨a, b, o⟩ := Z₂.own; ⟨a, b, s₃.extBut _ _ D.TOz o⟩, Z₂.it1.at fun o => s₃.extBut _ o D.i1z, Z₂.it2.at fun o => s₃.extBut _ o D.i2z, Z₂.sq1.at fun o => s₃.extBut _ o D.l1z, Z₂.sq2.at fun o => s₃.extBut _ o D.l2z⟩
        exact zz.frame fun c _ o e => e₄ c o (Nat.ne_of_lt (Heap.lt_size e)) e
      refine assignInOrder_cons (wpAny_assign_Name (wpAny_storeName_local (lookup_relabel_local hx) (hn'.at' fun o e => up4 _ o offC e) (fun h₅ hn₅ hs₅ => ?_) (by simp [compEnvC, relabel, hkind])))
      refine assignInOrder_cons (wpAny_assign_Name (wpAny_storeName_local (lookup_relabel_local hx₂) hn₅ (fun h₆ hn₆ hs₆ => ?_) (by simp [compEnvC, relabel, hkind])))
      refine assignInOrder_nil ?_
      have up6 : ∀ c o, c ≠ Ca → h₄.get? c = some o → h₆.get? c = some o := fun c o hc e => hs₆.extBut c o hc (hs₅.extBut c o hc e)
      have F₄ : Fr h₀ L h₄ m := ⟨F'.ns.at' fun o e => up4 _ o offL e, fun b o e => up4 b o (off₀ b (by rw [e]; exact fun q => nomatch q)) (F'.keep b o e), F'.above⟩
      have F₆ : Fr h₀ L h₆ m := (F₄.change hs₅ (neC Llt).symm hC₀).change hs₆ (neC Llt).symm hC₀
      have N₆ : News h₀ L h₆ news := fun p hp => ⟨up6 _ _ (neC (nlt p hp)) (up4 _ _ (off p hp) (N' p hp).1), (N' p hp).2⟩
      have Z₆ : ZSt t z TI TO i1 i2 l1 l2 xs ys .none (i + 1) h₆ := Z₄.frame fun c hc o => up6 c o (neC (zin c hc))
      have D₆ : h₆.get? Da = some (lst vs) := up6 _ _ hDC (up4 _ _ offD hD')
      refine helt i Ca _ _ _ h₆ _ _ _ hlt hn₆ ex ey (by simp [hxx]) (by simp) F₆ N₆ fun t' tk'' => ?_
      refine append_at (hsz := by show vs.toArray.size ≤ sizeLine; rw [List.size_toArray, hI'.length]; simp; omega) D₆ fun h₇ hs₇ hD₇ => ?_
      refine ⟨n + 1 - (i + 1), by omega, h₇, tk'', i + 1, vs ++ [.int (ns i) t'], _, rfl, hlt, rfl, Z₆.frame fun c hc o => hs₇.extBut c o (neD (zin c hc)), F₆.change hs₇ (neD Llt).symm hD₀, hn₆.sameBut hs₇ hDC.symm, hD₇.trans (congrArg some (lst_snoc vs _)), ints_snoc hI' rfl, fun p hp => ⟨hs₇.extBut _ _ (neD (nlt p hp)) (N₆ p hp).1, (N₆ p hp).2⟩⟩
    · obtain rfl : i = n := Nat.le_antisymm hi (Nat.not_lt.mp hlt)
      refine z_stop hh D Z' (by simp [hxs]) fun h₂ k₂ => ?_
      refine ⟨m', hn'.at' fun o e => k₂ _ o offC e, fun h'' hs'' => ?_⟩
      have F₂ : Fr h₀ L h₂ m := ⟨F'.ns.at' fun o e => k₂ _ o offL e, fun b o e => k₂ b o (off₀ b (by rw [e]; exact fun q => nomatch q)) (F'.keep b o e), F'.above⟩
      refine fin Da h'' _ vs (F₂.change hs'' (neC Llt).symm hC₀) (fun p hp => ?_) nlt hI'
      rcases List.mem_cons.mp hp with rfl | hp
      · exact ⟨hs''.extBut _ _ hDC (k₂ _ _ offD hD'), (neD Llt).symm, hD₀⟩
      · exact ⟨hs''.extBut _ _ (neC (nlt p hp)) (k₂ _ _ (off p hp) (N' p hp).1), (N' p hp).2⟩
  exact codeAny_compStart_list (loop _ rfl) (wpAny_pyIter_zip (s := { s₁ with heap := g₁, toks := _ }) (old _ _ Z.zip) (loop _ rfl))
theorem z_src {t : Bool} {n : Nat} {l1 l2 : Addr} {xs ys : Array Value} {elt : Expr} {x x₂ : Str} {scope : Scope} {cl : List (Str × Addr)} {Q : Value → Shared → Prop} {news : List (Addr × Obj)} (ns : Nat → Int) (hh : A.handled = none) (F : Fr h₀ L s.heap m) (N : News h₀ L s.heap news) (h1 : SqAt t s.heap l1 xs) (h2 : SqAt t s.heap l2 ys) (hxs : xs.size = n) (hys : ys.size = n) (hsz : n ≤ sizeLine)
    (helt : ∀ i C m₂ a b h tk (Q' E' : Value → Shared → Prop), i < n → h.Ns C m₂ → xs[i]? = some a → ys[i]? = some b → m₂ x = some a → m₂ x₂ = some b → Fr h₀ L h m → News h₀ L h news →
      (∀ t' tk', Q' (.int (ns i) t') { s with heap := h, toks := tk' }) → wpAny (model prog w) A (eval elt (compEnvC scope cl C env)) Q' E' { s with heap := h, toks := tk })
    (fin : ∀ D h tk vs, Fr h₀ L h m → News h₀ L h ((D, lst vs) :: news) → (∀ p ∈ news, p.1 < D) → IntsAre vs ((List.range n).map ns) → Q (.ref D) { s with heap := h, toks := tk }) :
    wpAny (model prog w) A (call (.type "zip") [.ref l1, .ref l2]) (ZSrc prog w A h₀ L m env elt x x₂ scope cl Q) E s := by
  refine z_call h1 h2 fun h' D Z up => ?_
  have off : ∀ {c : Addr}, c < s.heap.objs.size → ZOff (s.heap.objs.size + 4) (s.heap.objs.size + 3) s.heap.objs.size (s.heap.objs.size + 1) c := fun {c} h =>
    have h : @LT.lt Nat _ c s.heap.objs.size := h
    ⟨fun e => Nat.lt_irrefl _ (Nat.lt_of_lt_of_le h (by rw [e]; exact Nat.le_add_right _ _)), fun e => Nat.lt_irrefl _ (Nat.lt_of_lt_of_le h (by rw [e]; exact Nat.le_add_right _ _)), fun e => Nat.lt_irrefl _ (e ▸ h), fun e => Nat.lt_irrefl _ (Nat.lt_of_lt_of_le h (by rw [e]; exact Nat.le_add_right _ _))⟩
  exact ⟨t, _, _, _, _, _, l1, l2, xs, ys, news, n, ns, rfl, hh, D, Z, F.keeps up, N.grown up, fun p hp => off (Heap.lt_size (N p hp).1), off F.ns.lt, fun c hc => by
    cases e : h₀.get? c with
    | none => exact absurd e hc
    | some o => exact off (Heap.lt_size (F.keep c o e)), hxs, hys, hsz, helt, fin⟩
end
end Mine

-- W3
namespace Mine

/-- the state's tuple: the ledger's, or the top's -/
def StAt (w : World) (news : List (Addr × Obj)) (st : Addr) (vs : List Value) : Prop := (st, tupO vs) ∈ news ∨ (hd.heap_39 w.params).lookup st = some (tupO vs)
theorem StAt.tup {w : World} {news nx : List (Addr × Obj)} {st L : Addr} {vs : List Value} {g h : Heap} {m : Str → Option Value} (S : StAt w news st vs) (F : Fr g L h m) (X : (hd.heap_39 w.params).In g) (N : News g L h nx) (sub : ∀ p ∈ news, p ∈ nx) : IsTup h st vs.toArray := by
  rcases S with hm | hl
  · exact News.isTup N (sub _ hm)
  · exact ⟨_, F.keep _ _ (X _ _ hl), rfl, _, rfl⟩
theorem news_two {h₀ h : Heap} {L D a : Addr} {o : Obj} {us : List Value} {n : Nat} {r : List (Addr × Obj)} (_ : News h₀ L h ((D, o) :: (a, listOf us.toArray n) :: r)) : ∃ D' a' o' us' n', D' = D ∧ a' = a ∧ o' = o ∧ us' = us ∧ n' = n := ⟨D, a, o, us, n, rfl, rfl, rfl, rfl, rfl⟩
local macro_rules | `(tactic| k_all) => `(tactic| exact all_ne (by assumption))

theorem band4 (x y z v : Nat) : Builtin.bitAnd ((x : Int) + y + z + v) 4294967295 = (((x + y + z + v) % 4294967296 : Nat) : Int) := by rw [bitAnd_m32]; omega
theorem band2 (x y : Nat) : Builtin.bitAnd ((x : Int) + y) 4294967295 = (((x + y) % 4294967296 : Nat) : Int) := by rw [bitAnd_m32]; omega
theorem wd_at (ks : List Int) {j : Nat} (h : j < 16) : ((List.range 16).map fun i => (wd ks i : Int))[j]? = some (wd ks j : Int) := by simp [h]
theorem turned_left_tl' {w : World} {p : Program} {loose : List Str} {mean : ExcName → Option Value} {mg mb : Str → Option Value} (news : List (Addr × Obj)) {x : Int} {n q : Nat} (tn tp : Tok) (e : x = (n : Int)) (h1 : n < 4294967296) (h2 : 0 < q ∧ q < 32) :
   Tl w p loose mean mg mb 28 news [.int x tn, .int q tp] 1 (fun tl r => tl = [] ∧ ∃ t, r = .int (rotl n q : Nat) t) := by
  subst e
  exact turned_left_tl news n q tn tp h1 h2.1 h2.2
theorem fdiv16 (i : Nat) : ((i : Int)).fdiv 16 = ((i / 16 : Nat) : Int) := by rw [Int.fdiv_eq_ediv_of_nonneg _ (by decide)]; omega
theorem fmod4 (i : Nat) : ((i : Int)).fmod 4 = ((i % 4 : Nat) : Int) := by rw [Int.fmod_eq_emod_of_nonneg _ (by decide)]; omega
def q4 (x : S4) : Nat → Nat
  | 0 => x.1
  | 1 => x.2.1
  | 2 => x.2.2.1
  | _ => x.2.2.2
theorem four_at {x : S4} {t0 t1 t2 t3 : Tok} {i : Nat} {v : Value} (hi : i < 4) (h : ([.int (x.1 : Nat) t0, .int (x.2.1 : Nat) t1, .int (x.2.2.1 : Nat) t2, .int (x.2.2.2 : Nat) t3] : List Value).toArray[i]? = some v) : ∃ u, v = .int ((q4 x i : Nat) : Int) u := by
  rcases i with _ | _ | _ | _ | i
  · exact ⟨_, (Option.some.inj h).symm⟩
  · exact ⟨_, (Option.some.inj h).symm⟩
  · exact ⟨_, (Option.some.inj h).symm⟩
  · exact ⟨_, (Option.some.inj h).symm⟩
  · omega
theorem ints_q4 {vs : List Value} {x : S4} (h : IntsAre vs ((List.range 4).map fun i => ((q4 x i : Nat) : Int))) : ∃ t0 t1 t2 t3, vs = [.int x.1 t0, .int x.2.1 t1, .int x.2.2.1 t2, .int x.2.2.2 t3] := ints4 h
theorem drop_to {h₀ h : Heap} {L : Addr} {l l' : List (Addr × Obj)} (N : News h₀ L h l) (sub : ∀ p ∈ l', p ∈ l) : News h₀ L h l' := fun p hp => N p (sub p hp)
theorem ord_one {a : Addr} {o : Obj} {news : List (Addr × Obj)} (h : ∀ p ∈ news, p.1 < a) : ∀ q ∈ news, ∀ p ∈ [(a, o)], q.1 < p.1 := by
  intro q hq p hp
  rw [List.mem_singleton.mp hp]
  exact h q hq
local macro_rules | `(tactic| walk_at $k) => if ["pyIter ref", "call ref", "subscriptTail", "eval ListComp", "call type:zip", "assign"].contains k.getString then `(tactic| refine Stop.out ?_) else Lean.Macro.throwUnsupported
local macro_rules | `(tactic| walk_at "eval Name") => `(tactic| refine ldVarK (by assumption) (by assumption) ?_)
section
variable {w : World} {p : Program} {loose : List Str} {mean : ExcName → Option Value} {mg mb : Str → Option Value}

theorem block_digest_tl (news : List (Addr × Obj)) (st : Addr) (sa sb sc sd : Nat) (ta tb tc td : Tok) (hst : StAt w news st [.int sa ta, .int sb tb, .int sc tc, .int sd td]) (bb : Array UInt8) (t : Tok) (ks : List Int) (hk : KBw.bInts bb = ks) (hl : ks.length = 64) (hx : Ok4 (sa, sb, sc, sd)) :
   Tl w p loose mean mg mb 52 news [.ref st, .bytes bb t] 2 (fun tl r => ∃ a t0 t1 t2 t3, r = .ref a ∧ tl = [(a, tupO [.int ((blockN (wd ks) (sa, sb, sc, sd)).1 : Nat) t0, .int ((blockN (wd ks) (sa, sb, sc, sd)).2.1 : Nat) t1, .int ((blockN (wd ks) (sa, sb, sc, sd)).2.2.1 : Nat) t2, .int ((blockN (wd ks) (sa, sb, sc, sd)).2.2.2 : Nat) t3])]) := by
  w_top off
  unfold Tl
  k_fill
  intro dp un gd cn cs a ccd cl outer A₀ base h₀ L m s Q E B F X N T hkf hd hu hret
  refine wpAny_call ?_
  k_dflt ktr_enter
  k_steps
  refine Stop.in ?_
  refine tl_use (by k_asm) (by k_asm) (by k_asm) (by k_asm) (by k_asm) (block_words_tl _ _ _ _ hk hl) (by first | exact rfl | assumption) (by ktr_room) (by ktr_units) ?_
  rintro r9 tl9 h9 tk9 F9 N9 o9 ⟨a9, us9, n9, rfl, rfl, i9⟩
  simp only [List.nil_append, List.cons_append] at N9
  k_steps
  refine Stop.in ?_
  dsimp only
  with_unfolding_all refine unpackN_ (by k_asm) (by k_asm) (StAt.tup hst (by k_asm) (by k_asm) (by k_asm : News _ _ _ (_ :: _ :: news)) (fun p hp => .tail _ (.tail _ hp))) rfl rfl rfl ?_
  intro h' F' N'
  (try k_sweep)
  k_steps
  refine Stop.in ?_
  with_reducible rename Fr _ _ _ _ => lF
  with_reducible rename News _ _ _ _ => lN
  rename IsRange _ _ _ _ _ _ _ _ => rgX
  obtain ⟨D, a9, o9, us9, n9, eD, ea, eo, eu, en⟩ := news_two lN
  subst eD ea eo eu en
  refine range_st (σ := S4 × Tok × Tok × Tok × Tok) (fun x => [(Str.ofString "words", .ref a9), (Str.ofString "state", .ref st), (Str.ofString "a", .int (x.1.1 : Nat) x.2.1), (Str.ofString "b", .int (x.1.2.1 : Nat) x.2.2.1), (Str.ofString "c", .int (x.1.2.2.1 : Nat) x.2.2.2.1), (Str.ofString "d", .int (x.1.2.2.2 : Nat) x.2.2.2.2)])
    (fun _ => (a9, listOf us9.toArray n9) :: news) (fun i x => x.1 = rounds (wd ks) i (sa, sb, sc, sd)) ((sa, sb, sc, sd), ta, tb, tc, td) 64 (by rfl) rgX (by decide) (by decide) lF (fun p hp => lN p (.tail _ hp)) ?_ ?_ ?_ ?_
  · rfl
  · k_dflt (simp only [List.forall_mem_cons]; refine ⟨by with_unfolding_all rfl, by with_unfolding_all rfl, by with_unfolding_all rfl, by with_unfolding_all rfl, by with_unfolding_all rfl, by with_unfolding_all rfl, fun _ h => nomatch h⟩)
  · clear lF lN rgX
    rintro I ⟨⟨x1, x2, x3, x4⟩, t1, t2, t3, t4⟩ i u v t' h tk hi hP hv off lF lN
    obtain rfl : v = (i : Int) := by omega
    have hok : Ok4 (x1, x2, x3, x4) := by
      have e : (x1, x2, x3, x4) = rounds (wd ks) i (sa, sb, sc, sd) := hP
      rw [e]; exact rounds_ok hx i
    obtain ⟨y1, y2, y3, y4⟩ := hok
    dsimp only at y1 y2 y3 y4
    k_steps
    refine Stop.in ?_
    refine tl_use (by k_asm) (by k_asm) (by k_asm) (by k_asm) (by k_asm) (step_parts_tl _ _ _ _ _ _ _ _ _ hi y2 y3 y4) (by first | exact rfl | assumption) (by ktr_room) (by ktr_units) ?_
    rintro r9 tl9 h9 tk9 F9 N9 o9 ⟨a9, t9, u9, rfl, rfl⟩
    simp only [List.nil_append, List.cons_append] at N9
    k_steps
    refine Stop.in ?_
    refine sub_sine (by k_asm) (by k_asm) hi fun _ => ?_
    k_steps
    refine Stop.in ?_
    refine sub_list (by k_asm) (by k_mem) i9 (wd_at _ plc_lt) (Nat.lt_trans plc_lt (by decide)) fun _ => ?_
    k_steps
    refine Stop.in ?_
    refine sub_turns (by k_asm) (by k_asm) (fdiv16 _) hi ?_
    k_steps
    refine Stop.in ?_
    refine sub_turn (by k_asm) (by k_asm) (fmod4 _) hi fun _ => ?_
    k_steps
    refine Stop.in ?_
    refine tl_use (by k_asm) (by k_asm) (by k_asm) (by k_asm) (by k_asm) (turned_left_tl' _ _ _ (band4 _ _ _ _) (Nat.mod_lt _ (by decide)) (turn_ok _ hi)) (by first | exact rfl | assumption) (by ktr_room) (by ktr_units) ?_
    rintro r9 tl9 h9 tk9 F9 N9 o9 ⟨rfl, t9, rfl⟩
    simp only [List.nil_append] at N9
    k_steps
    with_reducible rename Fr _ _ _ _ => lF
    with_reducible rename News _ _ _ _ => lN
    refine TurnEnd.next ((x4, (x2 + rotl ((x1 + mixN i x2 x3 x4 + sineN i + wd ks (plc i)) % 4294967296) (turnN i)) % 4294967296, x2, x3), ?t1, ?t2, ?t3, ?t4) lF lN ?hps ?sub (fun p hp => off p hp) ?fin
    case hps =>
      k_dflt (simp only [List.forall_mem_cons]; refine ⟨by with_unfolding_all rfl, by with_unfolding_all rfl, by with_unfolding_all rfl, by rw [← band2]; with_unfolding_all rfl, by with_unfolding_all rfl, by with_unfolding_all rfl, fun _ h => nomatch h⟩)
    case sub =>
      intro p hp
      repeat (first | exact hp | refine List.mem_cons_of_mem _ ?_)
    case fin =>
      show _ = stepN (wd ks) i (rounds (wd ks) i (sa, sb, sc, sd))
      rw [← show (x1, x2, x3, x4) = rounds (wd ks) i (sa, sb, sc, sd) from hP]
      simp only [stepN]
  · clear lF lN rgX
    rintro ⟨⟨y1, y2, y3, y4⟩, t1, t2, t3, t4⟩ u h tk hP lF lN
    have hP' : rounds (wd ks) 64 (sa, sb, sc, sd) = (y1, y2, y3, y4) := hP.symm
    k_steps
    refine Stop.in ?_
    k_dflt (refine zip_comp (by k_asm) (by with_unfolding_all rfl) (by decide) (by rfl) (by decide) (by rfl) (by rfl) (by decide) ?_)
    k_steps
    refine Stop.in ?_
    refine z_src (t := true) (n := 4) (fun i => ((q4 (blockN (wd ks) (sa, sb, sc, sd)) i : Nat) : Int)) (by rfl) (by k_asm) (by k_asm) (StAt.tup hst (by k_asm) (by k_asm) (by k_asm) (by intro p hp; repeat (first | exact hp | refine List.mem_cons_of_mem _ ?_))) (News.isTup (by k_asm) (by k_mem)) (by rfl) (by rfl) (by rw [sizeLine_eq]; decide) ?helt ?fin
    case helt =>
      intro i C m₂ va vb h tk Q' E' hi hns ea eb ma mb F8 N8 hq
      have hbl : ∀ j, q4 (blockN (wd ks) (sa, sb, sc, sd)) j = (q4 (sa, sb, sc, sd) j + q4 (y1, y2, y3, y4) j) % 4294967296 := by
        intro j
        unfold blockN
        rw [hP']
        rcases j with _ | _ | _ | j <;> rfl
      rw [hbl i] at hq
      rw [← band2] at hq
      obtain ⟨ua, rfl⟩ : ∃ ua, va = .int ((q4 (sa, sb, sc, sd) i : Nat) : Int) ua := four_at hi ea
      obtain ⟨ub, rfl⟩ : ∃ ub, vb = .int ((q4 (y1, y2, y3, y4) i : Nat) : Int) ub := four_at hi eb
      k_steps
      exact hq _ _
    case fin =>
      intro D h tk vs F8 N8 l8 hI
      obtain ⟨u0, u1, u2, u3, rfl⟩ := ints_q4 hI
      k_steps
      exact hret _ [_] _ _ (by k_asm) (drop_to (by k_asm) (by
        intro p hp
        rcases List.mem_cons.mp hp with rfl | hp
        · exact .head _
        · exact .tail _ (.tail _ (.tail _ (.tail _ hp))))) (ord_one (ktn_ltOf (by assumption : _ < _ ∧ _ < _ ∧ _ < _ ∧ AllLt _ news).2.2.2)) ⟨_, _, _, _, _, rfl, rfl⟩
end
end Mine

-- BR
namespace Mine
theorem look_int_bytes : typeLookup (.type "int") "__bytes__" = pure none := by rw [typeLookup_type, builtinLookup_eq_fast]; kernel_rfl
theorem look_int_index : typeLookup (.type "int") "__index__" = pure (some (.builtin "int.__index__")) := by rw [typeLookup_type, builtinLookup_eq_fast]; kernel_rfl
theorem look_bytes_bytes : typeLookup (.type "bytes") "__bytes__" = pure (some (.builtin "bytes.__bytes__")) := by rw [typeLookup_type, builtinLookup_eq_fast]; kernel_rfl
section
variable {prog : Program} {w : World} {A : Around} {E : Value → Shared → Prop} {s : Shared}
theorem new_of_bytes {b : Array UInt8} {t : Tok} {Q : Value → Shared → Prop} (hQ : Q (.bytes b t) s) :
    codeAny (model prog w) A (.call (.builtin "bytes.__new__") ⟨[.type "bytes", .bytes b t], []⟩) (wants Q E) s := by
  refine codeAny_of_tree ?_
  show wpAny _ A.in1 (do checkBuiltinCall "bytes.__new__" ⟨[.type "bytes", .bytes b t], []⟩; again (.builtin "bytes.__new__" ⟨[.type "bytes", .bytes b t], []⟩)) _ _ s
  refine wpAny_bind (wpAny_of_eq (F.bm_newCall _) (wpAny_pure ⟨plainId_quiet F.bm_plain _, codeAny_builtin F.bm_entry ?_⟩))
  rw [Around.under_plainId F.bm_plain _]
  unfold Builtin.«bytes.__new__»
  refine wpAny_bind (wpAny_of_eq (a := true) rfl ?_)
  refine bm_if_false rfl ?_
  refine wpAny_bind (wpAny_of_eq F.bm_sub ?_)
  refine bm_if_false rfl ?_
  refine wpAny_bind (wpAny_of_eq (F.bm_bind _) ?_)
  refine wpAny_bind (wpAny_of_eq (a := ()) rfl ?_)
  refine wpAny_bind (wpAny_of_eq (a := ()) rfl ?_)
  refine bm_if_false rfl ?_
  refine wpAny_bind (wpAny_specialOf (typeIs_bytes s b t) look_bytes_bytes ?_)
  refine wpAny_bind (wpAny_rule ?_)
  refine wpAny_bind (wpAny_of_eq (a := Value.type "bytes") rfl ?_)
  refine bm_if_true (by decide) ?_
  first | exact wpAny_pure hQ | exact wpAny_bind (wpAny_pure (wpAny_pure hQ)) | exact wpAny_pure (wpAny_pure hQ)
theorem new_of_int {n : Nat} {z : Int} {t : Tok} {Q : Value → Shared → Prop} (hz : z = (n : Int)) (hn : n ≤ 65536) (hQ : ∀ t' k, Q (.bytes (Array.replicate n 0) t') { s with toks := k }) :
    codeAny (model prog w) A (.call (.builtin "bytes.__new__") ⟨[.type "bytes", .int z t], []⟩) (wants Q E) s := by
  refine codeAny_of_tree ?_
  show wpAny _ A.in1 (do checkBuiltinCall "bytes.__new__" ⟨[.type "bytes", .int z t], []⟩; again (.builtin "bytes.__new__" ⟨[.type "bytes", .int z t], []⟩)) _ _ s
  refine wpAny_bind (wpAny_of_eq (F.bm_newCall _) (wpAny_pure ⟨plainId_quiet F.bm_plain _, codeAny_builtin F.bm_entry ?_⟩))
  rw [Around.under_plainId F.bm_plain _]
  unfold Builtin.«bytes.__new__»
  refine wpAny_bind (wpAny_of_eq (a := true) rfl ?_)
  refine bm_if_false rfl ?_
  refine wpAny_bind (wpAny_of_eq F.bm_sub ?_)
  refine bm_if_false rfl ?_
  refine wpAny_bind (wpAny_of_eq (F.bm_bind _) ?_)
  refine wpAny_bind (wpAny_of_eq (a := ()) rfl ?_)
  refine wpAny_bind (wpAny_of_eq (a := ()) rfl ?_)
  refine bm_if_false rfl ?_
  have hT : ∀ s : Shared, s.TypeIs (.int z t) "int" := fun _ => rfl
  refine wpAny_bind (wpAny_specialOf (hT s) look_int_bytes ?_)
  refine wpAny_bind (wpAny_of_eq (a := false) rfl ?_)
  refine bm_if_false rfl ?_
  refine wpAny_bind (wpAny_specialOf (hT s) look_int_index ?_)
  refine bm_if_false rfl ?_
  refine wpAny_bind (wpAny_attempt (wpAny_of_eq (a := z) rfl ?_))
  dsimp only
  have h1 : Builtin.Bytes.fitsIndex z = true := by
    unfold Builtin.Bytes.fitsIndex
    rw [Bool.and_eq_true, decide_eq_true_iff, decide_eq_true_iff]
    omega
  have h2 : ¬ (z < 0) := by omega
  have h3 : ¬ (z > 2 ^ 63 - 34) := by omega
  have h4 : z.toNat = n := by omega
  have h5 : Builtin.Bytes.tooLong n = false := by
    unfold Builtin.Bytes.tooLong
    rw [sizeLine_eq]
    exact decide_eq_false (by omega)
  rw [h1, h4, h5]
  refine bm_if_false rfl ?_
  rw [if_neg h2, if_neg h3]
  refine bm_if_false rfl ?_
  refine wpAny_bind (wpAny_rule ?_)
  refine wpAny_bind (wpAny_mkBytes ?_ (by rw [Array.size_replicate, sizeLine_eq]; omega))
  refine bm_if_true (by decide) ?_
  first | exact wpAny_pure (hQ _ _) | exact wpAny_bind (wpAny_pure (wpAny_pure (hQ _ _))) | exact wpAny_pure (wpAny_pure (hQ _ _))
theorem call_bytes_bytes {b : Array UInt8} {t : Tok} {Q : Value → Shared → Prop} (hQ : Q (.bytes b t) s) : wpAny (model prog w) A (call (.type "bytes") [.bytes b t]) Q E s := by
  refine callType_codes (Q₁ := fun obj s₁ => s₁.TypeIs obj "bytes" ∧ Q obj s₁) F.bm_called (F.bm_typeCall _) F.entry_object_init (new_of_bytes ⟨typeIs_bytes _ _ _, hQ⟩) fun obj s₁ h₁ => ?_
  exact ⟨h₁.1, F.args_object_init_2 obj _, object_init_meets F.bm_called.init.lookup F.bm_called.made (by decide) prog w A.in1 _ s₁ ⟨h₁.1, rfl, h₁.2⟩⟩
theorem call_bytes_int {n : Nat} {z : Int} {t : Tok} {Q : Value → Shared → Prop} (hz : z = (n : Int)) (hn : n ≤ 65536) (hQ : ∀ t' k, KBw.bInts (Array.replicate n 0) = List.replicate n 0 → Q (.bytes (Array.replicate n 0) t') { s with toks := k }) : wpAny (model prog w) A (call (.type "bytes") [.int z t]) Q E s := by
  have e : KBw.bInts (Array.replicate n 0) = List.replicate n 0 := by simp [KBw.bInts]
  refine callType_codes (Q₁ := fun obj s₁ => s₁.TypeIs obj "bytes" ∧ Q obj s₁) F.bm_called (F.bm_typeCall _) F.entry_object_init (new_of_int hz hn fun t' k => ⟨typeIs_bytes _ _ _, hQ t' k e⟩) fun obj s₁ h₁ => ?_
  exact ⟨h₁.1, F.args_object_init_2 obj _, object_init_meets F.bm_called.init.lookup F.bm_called.made (by decide) prog w A.in1 _ s₁ ⟨h₁.1, rfl, h₁.2⟩⟩
end
end Mine

-- W4
namespace Mine
theorem all_ne1 {l : List (Addr × Obj)} {D : Addr} (h : ∀ p ∈ l, p.1 < D) : ∀ p ∈ l, p.1 ≠ D + 1 := fun p hp => Nat.ne_of_lt (Nat.lt_succ_of_lt (h p hp))
local macro_rules | `(tactic| k_all) => `(tactic| first | exact all_ne (by assumption) | exact all_ne1 (by assumption))

def fillN (n : Nat) : Nat := (119 - n % 64) % 64
theorem fill_lt (n : Nat) : fillN n ≤ 65536 := by unfold fillN; omega
theorem fill_eq (n : Nat) : ((64 : Int) - 9 - (n : Int)).fmod 64 = ((fillN n : Nat) : Int) := by
  rw [Int.fmod_eq_emod_of_nonneg _ (by decide)]
  unfold fillN
  omega
def lenB (n : Nat) : List Int := (List.range 8).map fun k => ((8 * n / 256 ^ k % 256 : Nat) : Int)
def padL (ks : List Int) : List Int := ks ++ [128] ++ List.replicate (fillN ks.length) 0 ++ lenB ks.length
theorem pow256 (k : Nat) : (2 : Nat) ^ (8 * k) = 256 ^ k := by rw [Nat.pow_mul]
theorem oct_eq (x k : Nat) : Builtin.bitAnd ((x : Int).fdiv (2 ^ (8 * (k : Int)).toNat)) 255 = ((x / 256 ^ k % 256 : Nat) : Int) := by
  rw [bitAnd_m8, show (8 * (k : Int)).toNat = 8 * k by omega, Int.fdiv_eq_ediv_of_nonneg _ (Int.le_of_lt (Int.pow_pos (by decide)))]
  rw [show ((2 : Int) ^ (8 * k)) = ((256 ^ k : Nat) : Int) by rw [← pow256]; push_cast; rfl]
  push_cast
  rfl
theorem len_list {n : Nat} (h : n ≤ 65536) : List.map (fun k' : Int => Builtin.bitAnd (((8 * (n : Int)).fmod (2 ^ Int.toNat 64)).fdiv (2 ^ (8 * k').toNat)) 255) (rangeKs 0 (8 - 0 : Int).toNat) = lenB n := by
  have e : (8 * (n : Int)).fmod (2 ^ Int.toNat 64) = ((8 * n : Nat) : Int) := by
    rw [show (2 : Int) ^ Int.toNat 64 = 18446744073709551616 by decide, Int.fmod_eq_emod_of_nonneg _ (by decide)]
    omega
  unfold rangeKs lenB
  rw [e, List.map_map, show (8 - 0 : Int).toNat = 8 from rfl]
  refine List.map_congr_left fun k _ => ?_
  show Builtin.bitAnd (((8 * n : Nat) : Int).fdiv (2 ^ (8 * (0 + (k : Int))).toNat)) 255 = _
  rw [Int.zero_add]
  exact oct_eq _ _
theorem lenB_in (n : Nat) : KBa.In (lenB n) := by
  intro x hx
  obtain ⟨k, _, rfl⟩ := List.mem_map.1 hx
  have := Nat.mod_lt (8 * n / 256 ^ k) (show 0 < 256 by decide)
  omega
theorem lenB_len (n : Nat) : (lenB n).length = 8 := by simp [lenB]
theorem padL_len (ks : List Int) : (padL ks).length = ks.length + 9 + fillN ks.length := by
  simp only [padL, List.length_append, List.length_replicate, lenB_len, List.length_cons, List.length_nil]; omega
local macro_rules | `(tactic| walk_at $k) => if ["call type:bytes", "binaryOp Add bytes bytes"].contains k.getString then `(tactic| refine Stop.out ?_) else Lean.Macro.throwUnsupported
section
variable {w : World} {p : Program} {loose : List Str} {mean : ExcName → Option Value} {mg mb : Str → Option Value}

theorem filled_tl (news : List (Addr × Obj)) (bb : Array UInt8) (t : Tok) (ks : List Int) (hk : KBw.bInts bb = ks) (hl : ks.length ≤ 4096) :
   Tl w p loose mean mg mb 33 news [.bytes bb t] 1 (fun tl r => tl = [] ∧ ∃ b' t', r = .bytes b' t' ∧ KBw.bInts b' = padL ks) := by
  w_top off
  unfold Tl
  k_fill
  intro dp un gd cn cs a ccd cl outer A₀ base h₀ L m s Q E B F X N T hkf hd hu hret
  refine wpAny_call ?_
  k_dflt (refine' code_defC ?k1 ?k2 ?k3 ?k4 ?k5 ?kA ?kF ?kK ?k6 ?k7 ?k8 ?k9 ?kB ?kD ?_ ?c2 ?c3 ?c4; (case kA => exact rfl); (case kF => exact rfl); (case kK => first | exact rfl | assumption); (case k1 => k_asm); (case k2 => k_asm); (case k3 => k_asm); (case k4 => k_asm); (case k5 => k_asm); (case k6 => k_is); (case k7 => k_is); (case k8 => ktr_room); (case k9 => exact BindsTo.of_eq rfl); (case kB => exact rfl); (case kD => decide +kernel); (case c2 => exact rfl); (case c3 => exact rfl); (case c4 => exact rfl); k_whole; intro g' L' h' tk' cells' FG' F' N' Y' B' X' T' l1; (try k_lt l1); k_cells Y'; (try simp only [List.cons_append, List.nil_append] at N'); (try dsimp only); (try k_lift B'); (try k_fold))
  k_steps
  refine Stop.in ?_
  refine call_bytes_bytes ?_
  k_steps
  refine Stop.in ?_
  refine KBa.add_K hk (by decide : KBw.bInts #[128] = [128]) (by simp only [List.length_append, List.length_replicate, List.length_map, List.length_cons, List.length_nil, List.length_range, lenB_len]; omega) ?_
  intro _ _ ka1
  k_steps
  refine Stop.in ?_
  refine call_bytes_int (fill_eq _) (fill_lt _) ?_
  intro t7 k7 hz7
  have hf := fill_lt ks.length
  k_steps
  refine Stop.in ?_
  refine KBa.add_K ka1 hz7 (by simp only [List.length_append, List.length_replicate, List.length_map, List.length_cons, List.length_nil, List.length_range, lenB_len]; omega) ?_
  intro _ _ ka2
  k_steps
  refine Stop.in ?_
  have hI9 := (by assumption : IntsAre _ (List.map _ (rangeKs 0 _)))
  rw [len_list (by omega)] at hI9
  refine KBa.make_K (by k_asm) (by k_asm) (by rfl) (News.isList (by k_asm) (by k_mem)) hI9 (lenB_in _) (by rw [lenB_len]; decide) ?_
  intro h8 t8 k8 F8 N8 i8
  have e8 := KBa.ints_make i8
  have e9 := lenB_len ks.length
  k_steps
  refine Stop.in ?_
  refine KBa.add_K ka2 e8 (by simp only [List.length_append, List.length_replicate, List.length_map, List.length_cons, List.length_nil, List.length_range, lenB_len]; omega) ?_
  intro _ _ e7
  k_steps
  exact hret _ [] _ _ (by k_asm) (drop_to (by k_asm) (fun p hp => .tail _ (.tail _ hp))) no_tl ⟨rfl, _, _, rfl, e7⟩
end
end Mine

-- C2
namespace Mine
open PyProof.Rows.LCg
/-! a comprehension of two clauses -/
theorem turn_out (elt t1 it1 t2 it2 : Expr) (scope : Scope) (pos : Pos) (it acc : Value) (env : Env) :
    compTurn (.ListComp elt [⟨t1, it1, [], 0⟩, ⟨t2, it2, [], 0⟩] scope pos) 0 it acc env = (standAt it1.pos >>= fun _ => pyNext it >>= fun r => match r with
      | none => pure (.done .next)
      | some v => letOwnedTupleGo t1 it v >>= fun _ => assign t1 env v >>= fun _ =>
        eval it2 env >>= fun x => standAt it2.pos >>= fun _ => foldedSetIterable it2 env x >>= fun x => (holding [x] (pyIter x)) >>= fun j => runOwn (.compStart (.ListComp elt [⟨t1, it1, [], 0⟩, ⟨t2, it2, [], 0⟩] scope pos) 1 j acc env) env >>= fun _ =>
          again (.compLoop (.ListComp elt [⟨t1, it1, [], 0⟩, ⟨t2, it2, [], 0⟩] scope pos) 0 it acc env)) := by rfl
theorem turn_in (elt t1 it1 t2 it2 : Expr) (scope : Scope) (pos : Pos) (it acc : Value) (env : Env) :
    compTurn (.ListComp elt [⟨t1, it1, [], 0⟩, ⟨t2, it2, [], 0⟩] scope pos) 1 it acc env = (standAt it2.pos >>= fun _ => pyNext it >>= fun r => match r with
      | none => pure (.done .next)
      | some v => letOwnedTupleGo t2 it v >>= fun _ => assign t2 env v >>= fun _ =>
        (eval elt env >>= fun x => call (.builtin "list.append") [acc, x] >>= fun _ => pure ()) >>= fun _ =>
          again (.compLoop (.ListComp elt [⟨t1, it1, [], 0⟩, ⟨t2, it2, [], 0⟩] scope pos) 1 it acc env)) := by rfl
section
variable {prog : Program} {w : World} {A : Around} {E : Value → Shared → Prop} {R : Result → Shared → Prop} {s : Shared} {env : Env}
theorem loop_in {elt t1 it1 t2 it2 : Expr} {scope : Scope} {pos : Pos} {it acc : Value} (I : Nat → Shared → Prop)
    (turn : ∀ n s, I n s → wpAny (model prog w) A (pyNext it) (fun r s₁ => match r with
      | none => R (.ok .next) s₁
      | some v => wpAny (model prog w) A (assign t2 env v) (fun _ s₂ => wpAny (model prog w) A (eval elt env) (fun x s₃ =>
          wpAny (model prog w) A (call (.builtin "list.append") [acc, x]) (fun _ s₄ => ∃ m, m < n ∧ I m s₄) (notedBy (model prog w) A env fun e s' => R (.error e) s') s₃)
          (notedBy (model prog w) A env fun e s' => R (.error e) s') s₂) (notedBy (model prog w) A env fun e s' => R (.error e) s') s₁) (notedBy (model prog w) A env fun e s' => R (.error e) s') s)
    (n : Nat) (h : I n s) (ht : ∀ v, letOwnedTupleGo t2 it v = pure () := by intro _; rfl) :
    codeAny (model prog w) A (.compLoop (.ListComp elt [⟨t1, it1, [], 0⟩, ⟨t2, it2, [], 0⟩] scope pos) 1 it acc env) R s := by
  refine codeAny_loop rfl I (fun n s hI => ?_) n h
  show wpAny _ _ ((compTurn (.ListComp elt [⟨t1, it1, [], 0⟩, ⟨t2, it2, [], 0⟩] scope pos) 1 it acc env).onRaise (fun x => do noteFrame x env; theTreesLotGoes x)) _ _ s
  refine wpAny_noted ?_
  rw [turn_in]
  refine wpAny_bind (wpAny_standAt (wpAny_bind (wpAny_mono (turn n s hI) (fun r s₁ h₁ => ?_) fun _ _ h' => h')))
  cases r with
  | none => exact wpAny_pure h₁
  | some v =>
    refine wpAny_bind (wpAny_of_eq (ht v) ?_)
    exact wpAny_bind (wpAny_mono h₁ (fun _ s₂ h₂ => wpAny_bind (wpAny_bind (wpAny_mono h₂ (fun x s₃ h₃ => wpAny_bind (wpAny_mono h₃
      (fun _ s₄ h₄ => wpAny_pure (wpAny_pure ⟨rfl, h₄⟩)) fun _ _ h' => h')) fun _ _ h' => h'))) fun _ _ h' => h')
theorem start_in {elt t1 it1 t2 it2 : Expr} {scope : Scope} {pos : Pos} {it acc : Value}
    (h0 : codeAny (model prog w) A (.compLoop (.ListComp elt [⟨t1, it1, [], 0⟩, ⟨t2, it2, [], 0⟩] scope pos) 1 it acc env) R s)
    (h : wpAny (model prog w) A (pyIter it) (fun it' s' => codeAny (model prog w) A (.compLoop (.ListComp elt [⟨t1, it1, [], 0⟩, ⟨t2, it2, [], 0⟩] scope pos) 1 it' acc env) R s')
      (notedBy (model prog w) A env fun x s' => R (.error x) s') s) :
    codeAny (model prog w) A (.compStart (.ListComp elt [⟨t1, it1, [], 0⟩, ⟨t2, it2, [], 0⟩] scope pos) 1 it acc env) R s := by
  refine codeAny_of_tree ?_
  show wpAny _ _ ((compStart (.ListComp elt [⟨t1, it1, [], 0⟩, ⟨t2, it2, [], 0⟩] scope pos) 1 it acc env).onRaise (fun x => do noteFrame x env; standAt theWindowsPlace)) _ _ s
  refine wpAny_notedAt ?_
  unfold compStart
  show wpAny _ _ (ask >>= _) _ _ s
  refine wpAny_bind (wpAny_askSetting (wpAny_ite ?_))
  split
  · first
      | exact wpAny_bind (wpAny_pure (wpAny_pure (And.intro rfl h0)))
      | exact wpAny_pure (And.intro rfl h0)
  · first
      | exact wpAny_bind (wpAny_rule (wpAny_bind (wpAny_standAt (wpAny_bind (wpAny_mono h (fun it' s' h' => wpAny_pure (And.intro rfl h')) fun _ _ x => x)))))
      | (refine wpAny_bind (wpAny_rule ?_); show wpAny _ _ (standAt it2.pos >>= _) _ _ s; exact wpAny_bind (wpAny_standAt (wpAny_bind (wpAny_mono h (fun it' s' h' => wpAny_pure (And.intro rfl h')) fun _ _ x => x))))
theorem loop_out {elt t1 it1 t2 it2 : Expr} {scope : Scope} {pos : Pos} {it acc : Value} (I : Nat → Shared → Prop)
    (turn : ∀ n s, I n s → wpAny (model prog w) A (pyNext it) (fun r s₁ => match r with
      | none => R (.ok .next) s₁
      | some v => wpAny (model prog w) A (assign t1 env v) (fun _ s₂ => wpAny (model prog w) A (eval it2 env) (fun x s₃ =>
          wpAny (model prog w) A (pyIter x) (fun j s₄ => codeAny (model prog w) A (.compStart (.ListComp elt [⟨t1, it1, [], 0⟩, ⟨t2, it2, [], 0⟩] scope pos) 1 j acc env) (fun r s₅ => match r with | .ok _ => ∃ m, m < n ∧ I m s₅ | .error e => cameBackBy (model prog w) A env (notedBy (model prog w) A env fun e s' => R (.error e) s') e s₅) s₄) (notedBy (model prog w) A env fun e s' => R (.error e) s') s₃)
          (notedBy (model prog w) A env fun e s' => R (.error e) s') s₂) (notedBy (model prog w) A env fun e s' => R (.error e) s') s₁) (notedBy (model prog w) A env fun e s' => R (.error e) s') s)
    (n : Nat) (h : I n s) (ht : ∀ v, letOwnedTupleGo t1 it v = pure () := by intro _; rfl) (hf : ∀ x, foldedSetIterable it2 env x = pure x := by intro _; rfl) :
    codeAny (model prog w) A (.compLoop (.ListComp elt [⟨t1, it1, [], 0⟩, ⟨t2, it2, [], 0⟩] scope pos) 0 it acc env) R s := by
  refine codeAny_loop rfl I (fun n s hI => ?_) n h
  show wpAny _ _ ((compTurn (.ListComp elt [⟨t1, it1, [], 0⟩, ⟨t2, it2, [], 0⟩] scope pos) 0 it acc env).onRaise (fun x => do noteFrame x env; theTreesLotGoes x)) _ _ s
  refine wpAny_noted ?_
  rw [turn_out]
  refine wpAny_bind (wpAny_standAt (wpAny_bind (wpAny_mono (turn n s hI) (fun r s₁ h₁ => ?_) fun _ _ h' => h')))
  cases r with
  | none => exact wpAny_pure h₁
  | some v =>
    refine wpAny_bind (wpAny_of_eq (ht v) ?_)
    refine wpAny_bind (wpAny_mono h₁ (fun _ s₂ h₂ => wpAny_bind (wpAny_mono h₂ (fun x s₃ h₃ => ?_) fun _ _ h' => h')) fun _ _ h' => h')
    refine wpAny_bind (wpAny_standAt (wpAny_bind (wpAny_of_eq (hf x) (wpAny_bind (wpAny_holding (wpAny_mono h₃ (fun j s₄ h₄ => ?_) fun _ _ h' => h'))))))
    refine wpAny_bind (wpAny_runOwn (codeAny_mono h₄ fun r s₅ h₅ => ?_))
    cases r with
    | ok f => obtain ⟨m, hm, hI⟩ := h₅; exact wpAny_pure ⟨rfl, m, hm, hI⟩
    | error e => exact h₅

theorem sq_next {t : Bool} {it l : Addr} {k : Nat} {xs : Array Value} {x : Value} {Q : Option Value → Shared → Prop} (hi : SqIt t s.heap it l k) (hl : SqAt t s.heap l xs) (hx : xs[k]? = some x)
    (hQ : ∀ h', SqIt t h' it l (k + 1) → Heap.SameBut it s.heap h' → Q (some x) { s with heap := h' }) : wpAny (model prog w) A (pyNext (.ref it)) Q E s := by
  cases t with
  | false => exact wpAny_pyNext_list_item hi hl hx hQ
  | true => exact wpAny_pyNext_tuple_item hi hl hx hQ
theorem sq_over {t : Bool} {it l : Addr} {k : Nat} {xs : Array Value} {Q : Option Value → Shared → Prop} (hh : A.handled = none) (hi : SqIt t s.heap it l k) (hl : SqAt t s.heap l xs) (hx : xs[k]? = none)
    (hQ : ∀ h', Heap.ExtBut it s.heap h' → Q none { s with heap := h' }) : wpAny (model prog w) A (pyNext (.ref it)) Q E s := by
  cases t with
  | false => exact wpAny_pyNext_list_end hh hi hl hx hQ
  | true => exact wpAny_pyNext_tuple_end hh hi hl hx hQ
theorem sq_self {t : Bool} {it l : Addr} {k : Nat} {Q : Value → Shared → Prop} (hi : SqIt t s.heap it l k) (h : Q (.ref it) s) : wpAny (model prog w) A (pyIter (.ref it)) Q E s := by
  cases t with
  | false => exact wpAny_pyIter_listiter hi h
  | true => exact wpAny_pyIter_tupleiter hi h
/-- what the inner loop must leave alone -/
structure B2 (h₀ : Heap) (L : Addr) (m : Str → Option Value) (news : List (Addr × Obj)) (t : Bool) (I l : Addr) (xs : Array Value) (i : Nat) (C D : Addr) (x : Str) (v : Option Value) (vs : List Value) (h : Heap) : Prop where
  fr : Fr h₀ L h m
  nw : News h₀ L h news
  it : SqIt t h I l i
  sq : SqAt t h l xs
  ns : ∃ m', h.Ns C m' ∧ (v ≠ none → m' x = v)
  acc : h.get? D = some (lst vs)
theorem B2.low {h₀ h h' : Heap} {L : Addr} {m : Str → Option Value} {news : List (Addr × Obj)} {t : Bool} {I l : Addr} {xs : Array Value} {i : Nat} {C D : Addr} {x : Str} {v : Option Value} {vs : List Value} {top : Nat} (b : B2 h₀ L m news t I l xs i C D x v vs h)
    (hL : L < top) (hn : ∀ p ∈ news, p.1 < top) (h0 : ∀ c, h₀.get? c ≠ none → c < top) (hI : I < top) (hl : l < top) (hC : C < top) (hD : D < top) (k : ∀ c o, c < top → h.get? c = some o → h'.get? c = some o) : B2 h₀ L m news t I l xs i C D x v vs h' where
  fr := ⟨b.fr.ns.at' fun o e => k _ o hL e, fun c o e => k c o (h0 c (by rw [e]; exact fun q => nomatch q)) (b.fr.keep c o e), b.fr.above⟩
  nw := fun p hp => ⟨k _ _ (hn p hp) (b.nw p hp).1, (b.nw p hp).2⟩
  it := b.it.at fun o => k _ o hI
  sq := b.sq.at fun o => k _ o hl
  ns := let ⟨m', hm, e⟩ := b.ns; ⟨m', hm.at' fun o => k _ o hC, e⟩
  acc := k _ _ hD b.acc

def twoVals (k : Nat) (ns : Nat → Nat → Int) (i j : Nat) : List Int := ((List.range i).flatMap fun a => (List.range k).map fun c => ns a c) ++ (List.range j).map fun c => ns i c
theorem twoVals_len (k : Nat) (ns : Nat → Nat → Int) (i j : Nat) : (twoVals k ns i j).length = i * k + j := by
  unfold twoVals
  rw [List.length_append, List.length_map, List.length_range]
  congr 1
  induction i with
  | zero => simp
  | succ i ih => rw [List.range_succ, List.flatMap_append, List.length_append, ih]; simp; rw [Nat.add_mul]; omega
theorem twoVals_row (k : Nat) (ns : Nat → Nat → Int) (i : Nat) : twoVals k ns i k = twoVals k ns (i + 1) 0 := by
  unfold twoVals
  rw [List.range_succ, List.flatMap_append]
  simp
theorem twoVals_step (k : Nat) (ns : Nat → Nat → Int) (i j : Nat) : twoVals k ns i (j + 1) = twoVals k ns i j ++ [ns i j] := by
  unfold twoVals
  rw [List.range_succ, List.map_append, List.append_assoc]
  rfl

theorem comp_two {elt iter it2 : Expr} {x y : Str} {px py : Pos} {scope : Scope} {cl : List (Str × Addr)} {pos : Pos} {Q : Value → Shared → Prop} {h₀ : Heap} {L : Addr} {m : Str → Option Value} (_F₀ : Fr h₀ L s.heap m)
    (hclos : closureFor scope env = pure cl) (hcell : ∀ y ∈ scope.names, y.2 ≠ .cell) (hkind : scope.kind = .function)
    (hnames : ∀ y ∈ scope.names, y.2 = .local → scope.names.lookup y.1 = some .local) (hx : scope.names.lookup x = some .local) (hy : scope.names.lookup y = some .local) (hxy : x ≠ y)
    (h : wpAny (model prog w) A (eval iter env) (fun xv s₁ => ∃ (t : Bool) (l : Addr) (xs : Array Value) (news : List (Addr × Obj)) (n k : Nat) (ns : Nat → Nat → Int), xv = .ref l ∧ A.handled = none ∧ SqAt t s₁.heap l xs ∧ Fr h₀ L s₁.heap m ∧ News h₀ L s₁.heap news ∧ xs.size = n ∧ n * k ≤ sizeLine ∧
      (∀ i C m₂ a g tk (Q' E' : Value → Shared → Prop), i < n → g.Ns C m₂ → xs[i]? = some a → m₂ x = some a → Fr h₀ L g m → News h₀ L g news →
        (∀ r g' tk' t u v, IsRange g' r 0 (k : Int) 1 t u v → Builtin.Range.small 0 (k : Int) 1 = true → Builtin.Range.rangeSize 0 (k : Int) 1 = (k : Int) → (∀ c o, g.get? c = some o → g'.get? c = some o) → Q' (.ref r) { s₁ with heap := g', toks := tk' }) → wpAny (model prog w) A (eval it2 (compEnvC scope cl C env)) Q' E' { s₁ with heap := g, toks := tk }) ∧
      (∀ i j C m₂ a tj g tk (Q' E' : Value → Shared → Prop), i < n → j < k → g.Ns C m₂ → xs[i]? = some a → m₂ x = some a → m₂ y = some (.int ((j : Nat) : Int) tj) → Fr h₀ L g m → News h₀ L g news →
        (∀ t' tk', Q' (.int (ns i j) t') { s₁ with heap := g, toks := tk' }) → wpAny (model prog w) A (eval elt (compEnvC scope cl C env)) Q' E' { s₁ with heap := g, toks := tk }) ∧
      ∀ D g tk vs, Fr h₀ L g m → News h₀ L g ((D, lst vs) :: news) → (∀ p ∈ news, p.1 < D) → IntsAre vs (twoVals k ns n 0) → Q (.ref D) { s₁ with heap := g, toks := tk }) E s)
    (hs : ∀ x, foldedSetIterable iter env x = pure x := by intro _; rfl) (hs2 : ∀ e x, foldedSetIterable it2 e x = pure x := by intro _ _; rfl) :
    wpAny (model prog w) A (eval (.ListComp elt [⟨.Name x px, iter, [], 0⟩, ⟨.Name y py, it2, [], 0⟩] scope pos) env) Q E s := by
  show wpAny _ A (comprehension (.ListComp elt [⟨.Name x px, iter, [], 0⟩, ⟨.Name y py, it2, [], 0⟩] scope pos) scope env _ (newList []) false (eval iter env)) Q E s
  refine wpAny_comprehension_free (use := none) rfl hs hclos hkind hnames (wpAny_mono h (fun xv s₁ h₁ => ?_) fun _ _ e => e)
  obtain ⟨t, l, xs, news, n, k, ns, rfl, hh, hsq, F, N, hxs, hsz, hin, helt, fin⟩ := h₁
  refine sq_iter hsq fun g₀ itG sizeG upG => ?_
  have hI : s₁.heap.objs.size < g₀.objs.size := by rw [sizeG]; exact Nat.lt_succ_self _
  generalize hIa : s₁.heap.objs.size = I at itG hI sizeG
  refine wpAny_newObj_type (wpAny_newFunctionEnv hcell (by intro y hy; simp at hy) (fun g₁ hns₁ hsb₁ => ?_) hkind)
  dsimp only at hns₁ hsb₁ ⊢
  generalize hH : g₀.push { cls := .type "list", dict := none, data := .seq ([] : List Value).toArray } = H at hns₁ hsb₁ ⊢
  have hC : H.objs.size = g₀.objs.size + 1 := by rw [← hH, Heap.size_push]
  generalize hDa : g₀.objs.size = Da at hC hI
  generalize hCa : H.objs.size = Ca at hC hns₁ hsb₁
  have lt0 : ∀ {c o}, g₀.get? c = some o → c < Da := fun e => hDa ▸ Heap.lt_size e
  have old : ∀ b o, g₀.get? b = some o → g₁.get? b = some o := fun b o e => by
    have hb := lt0 e
    exact hsb₁.extBut b o (by rw [hC]; exact Nat.ne_of_lt (Nat.lt_succ_of_lt hb)) (Heap.get?_push_of_some _ (hH ▸ Heap.get?_push_of_some _ e))
  have hDC : Da ≠ Ca := by rw [hC]; exact Nat.ne_of_lt (Nat.lt_succ_self _)
  have hacc : g₁.get? Da = some (lst []) := hsb₁.extBut _ _ hDC (Heap.get?_push_of_some _ (hH ▸ hDa ▸ Heap.get?_push_size _ rfl))
  have F₀ : Fr h₀ L g₀ m := F.keeps upG
  have N₀ : News h₀ L g₀ news := N.grown upG
  have hLD : L < Da := by have := F₀.ns.lt; rwa [hDa] at this
  have hnD : ∀ p ∈ news, p.1 < Da := fun p hp => lt0 (N₀ p hp).1
  have h0D : ∀ c, h₀.get? c ≠ none → c < Da := fun c hc => by
    cases e : h₀.get? c with
    | none => exact absurd e hc
    | some o => exact lt0 (F₀.keep c o e)
  have hlD : l < Da := by have := (hsq.at fun o => upG _ o).lt; rwa [hDa] at this
  have new₀ : ∀ c, Da ≤ c → h₀.get? c = none := fun c hc => by
    cases e : h₀.get? c with
    | none => rfl
    | some o => exact absurd (lt0 (F₀.keep c o e)) (Nat.not_lt.mpr hc)
  have up2 : ∀ {c : Addr}, c < Da → c < Ca + 1 := fun h => by rw [hC]; exact Nat.lt_succ_of_lt (Nat.lt_succ_of_lt h)
  have hCt : Ca < Ca + 1 := Nat.lt_succ_self _
  have hDt : Da < Ca + 1 := by rw [hC]; exact Nat.lt_succ_of_lt (Nat.lt_succ_self _)
  have neC : ∀ {c : Addr}, c < Da → c ≠ Ca := fun h => by rw [hC]; exact Nat.ne_of_lt (Nat.lt_succ_of_lt h)
  have low : ∀ {i : Nat} {v : Option Value} {vs : List Value} {h h' : Heap}, B2 h₀ L m news t I l xs i Ca Da x v vs h → (∀ c o, c < Ca + 1 → h.get? c = some o → h'.get? c = some o) → B2 h₀ L m news t I l xs i Ca Da x v vs h' := fun b k =>
    b.low (up2 hLD) (fun p hp => up2 (hnD p hp)) (fun c hc => up2 (h0D c hc)) (up2 hI) (up2 hlD) hCt hDt k
  have loop : ∀ s₃ : Shared, s₃ = { s₁ with heap := g₁, toks := s₁.toks + ([] : List (Str × Value)).length } →
      codeAny (model prog w) A (.compLoop (.ListComp elt [⟨.Name x px, iter, [], 0⟩, ⟨.Name y py, it2, [], 0⟩] scope pos) 0 (.ref I) (.ref Da) (compEnvC scope cl Ca env)) (compPost (model prog w) A E none Q (.ref Da) Ca) s₃ := by
    rintro s₃ rfl
    refine loop_out (fun q s' => ∃ h' tk i vs, s' = { s₁ with heap := h', toks := tk } ∧ i ≤ n ∧ q = n + 1 - i ∧ B2 h₀ L m news t I l xs i Ca Da x none vs h' ∧ IntsAre vs (twoVals k ns i 0)) ?_ (n + 1)
      ⟨g₁, _, 0, [], rfl, Nat.zero_le _, rfl, ⟨F₀.keeps old, N₀.grown old, itG.at fun o => old _ o, (hsq.at fun o => upG _ o).at fun o => old _ o, ⟨_, hns₁, fun q => absurd rfl q⟩, hacc⟩, .nil⟩ (by intro _; rfl) (hs2 _)
    rintro q s' ⟨h', tk', i, vs, rfl, hi, rfl, b, hI'⟩
    by_cases hlt : i < n
    · have ex : xs[i]? = some xs[i] := by simp [hxs, hlt]
      refine sq_next b.it b.sq ex fun h₂ it₂ s₂ => ?_
      obtain ⟨m', hn', -⟩ := b.ns
      have CI : Ca ≠ I := (neC hI).symm
      refine wpAny_assign_Name (wpAny_storeName_local (lookup_relabel_local hx) (hn'.at' fun o e => s₂.extBut _ o CI e) (fun h₃ hn₃ hs₃ => ?_) (by simp [compEnvC, relabel, hkind]))
      have hI₀ : h₀.get? I = none := by
        cases e : h₀.get? I with
        | none => rfl
        | some o => exact absurd (hIa ▸ Heap.lt_size (F.keep I o e)) (Nat.lt_irrefl _)
      have LI : L ≠ I := fun q => by have := F.ns.lt; rw [hIa, q] at this; exact Nat.lt_irrefl _ this
      have nI : ∀ p ∈ news, p.1 ≠ I := fun p hp q => by have := Heap.lt_size (N p hp).1; rw [hIa, q] at this; exact Nat.lt_irrefl _ this
      have DI : Da ≠ I := (Nat.ne_of_lt hI).symm
      have lI : l ≠ I := fun q => by have := hsq.lt; rw [hIa, q] at this; exact Nat.lt_irrefl _ this
      have b₃ : B2 h₀ L m news t I l xs (i + 1) Ca Da x (some xs[i]) vs h₃ := by
        refine ⟨(b.fr.change s₂ (Ne.symm LI) hI₀).change hs₃ (neC hLD).symm (new₀ Ca (by rw [hC]; exact Nat.le_succ _)), fun p hp => ⟨hs₃.extBut _ _ (neC (hnD p hp)) (s₂.extBut _ _ (nI p hp) (b.nw p hp).1), (b.nw p hp).2⟩, it₂.at fun o => hs₃.extBut _ o CI.symm, b.sq.at fun o e => hs₃.extBut _ o (neC hlD) (s₂.extBut _ o lI e), ⟨_, hn₃, fun _ => by simp⟩, hs₃.extBut _ _ hDC (s₂.extBut _ _ DI b.acc)⟩
      have size₃ : Ca < h₃.objs.size := hn₃.lt
      obtain ⟨m₃, hn₃', e₃⟩ := b₃.ns
      refine hin i Ca _ _ h₃ _ _ _ hlt hn₃' ex (e₃ (fun q => nomatch q)) b₃.fr b₃.nw fun r g' tk'' tt uu vv hr hsm hrs up => ?_
      refine wpAny_pyIter_range hr hsm ?_
      rw [hrs]
      have top : Ca + 1 ≤ g'.objs.size := by
        obtain ⟨o, _, _, e, _⟩ := hn₃'
        exact Heap.lt_size (up _ _ e)
      have b₅ : B2 h₀ L m news t I l xs (i + 1) Ca Da x (some xs[i]) vs (g'.push { cls := .type "range_iterator", data := .fields #[rawInt 0, rawInt (k : Int), rawInt 1] }) := low b₃ fun c o _ e => Heap.get?_push_of_some _ (up c o e)
      have it₅ : IsRangeIter (g'.push { cls := .type "range_iterator", data := .fields #[rawInt 0, rawInt (k : Int), rawInt 1] }) g'.objs.size (0 + ((0 : Nat) : Int) * 1) ((k : Int) - ((0 : Nat) : Int)) 1 := by
        have e : (0 + ((0 : Nat) : Int) * 1) = 0 := rfl
        rw [e, show ((k : Int) - ((0 : Nat) : Int)) = (k : Int) by omega]
        exact Heap.get?_push_size _ rfl
      generalize hJ : g'.objs.size = J at it₅ top
      generalize hg5 : (g'.push { cls := .type "range_iterator", data := .fields #[rawInt 0, rawInt (k : Int), rawInt 1] }) = g₅ at it₅ b₅
      have J0 : h₀.get? J = none := new₀ J (by have := top; rw [hC] at this; exact Nat.le_trans (Nat.le_succ _) (Nat.le_trans (Nat.le_succ _) this))
      have Jne : ∀ {c : Addr}, c < Ca + 1 → c ≠ J := fun h => Nat.ne_of_lt (Nat.lt_of_lt_of_le h top)
      have W := range_walks (prog := prog) (w := w) (A := A) (I := J) hh 0 k
      have inner : ∀ s₆ : Shared, s₆ = { s₁ with heap := g₅, toks := tk'' } →
          codeAny (model prog w) A (.compLoop (.ListComp elt [⟨.Name x px, iter, [], 0⟩, ⟨.Name y py, it2, [], 0⟩] scope pos) 1 (.ref J) (.ref Da) (compEnvC scope cl Ca env))
            (fun r s₅ => match r with
              | .ok _ => (∃ q', q' < n + 1 - i ∧ ∃ h' tk i vs, s₅ = { s₁ with heap := h', toks := tk } ∧ i ≤ n ∧ q' = n + 1 - i ∧ B2 h₀ L m news t I l xs i Ca Da x none vs h' ∧ IntsAre vs (twoVals k ns i 0))
              | .error e => cameBackBy (model prog w) A (compEnvC scope cl Ca env) (notedBy (model prog w) A (compEnvC scope cl Ca env) fun e s' => compPost (model prog w) A E none Q (.ref Da) Ca (.error e) s') e s₅) s₆ := by
        rintro s₆ rfl
        refine loop_in (fun q s' => ∃ h' tk j vs, s' = { s₁ with heap := h', toks := tk } ∧ j ≤ k ∧ q = k + 1 - j ∧ B2 h₀ L m news t I l xs (i + 1) Ca Da x (some xs[i]) vs h' ∧ IsRangeIter h' J (0 + (j : Nat) * 1) ((k : Int) - (j : Nat)) 1 ∧ IntsAre vs (twoVals k ns i j)) ?_ (k + 1)
          ⟨g₅, tk'', 0, vs, rfl, Nat.zero_le _, rfl, b₅, it₅, hI'⟩
        rintro q s' ⟨h₆, tk₆, j, vs₆, rfl, hj, rfl, b₆, it₆, hI₆⟩
        by_cases hjk : j < k
        · refine W.item j _ _ _ hjk it₆ fun v h₇ tk₇ hv it₇ k₇ => ?_
          obtain ⟨tj, rfl⟩ := hv
          have b₇ : B2 h₀ L m news t I l xs (i + 1) Ca Da x (some xs[i]) vs₆ h₇ := low b₆ fun c o hc e => k₇ c o (by simpa using Jne hc) e
          obtain ⟨m₇, hn₇, e₇⟩ := b₇.ns
          refine wpAny_assign_Name (wpAny_storeName_local (lookup_relabel_local hy) hn₇ (fun h₈ hn₈ hs₈ => ?_) (by simp [compEnvC, relabel, hkind]))
          have F₈ : Fr h₀ L h₈ m := b₇.fr.change hs₈ (neC hLD).symm (new₀ Ca (by rw [hC]; exact Nat.le_succ _))
          have N₈ : News h₀ L h₈ news := fun p hp => ⟨hs₈.extBut _ _ (neC (hnD p hp)) (b₇.nw p hp).1, (b₇.nw p hp).2⟩
          have D₈ : h₈.get? Da = some (lst vs₆) := hs₈.extBut _ _ hDC b₇.acc
          have it₈ : IsRangeIter h₈ J (0 + ((j + 1 : Nat) : Int) * 1) ((k : Int) - ((j + 1 : Nat) : Int)) 1 := hs₈.extBut _ _ (Jne hCt).symm it₇
          refine helt i j Ca _ _ tj h₈ _ _ _ hlt hjk hn₈ ex (by simp only [if_neg hxy]; exact e₇ (fun q => nomatch q)) (by simp) F₈ N₈ fun t' tk' => ?_
          have hz : vs₆.toArray.size ≤ sizeLine := by
            rw [List.size_toArray, hI₆.length, twoVals_len]
            have h1 : (i + 1) * k ≤ n * k := Nat.mul_le_mul_right k hlt
            rw [Nat.add_mul, Nat.one_mul] at h1
            omega
          refine append_at (hsz := hz) D₈ fun h₉ hs₉ hD₉ => ?_
          refine ⟨k + 1 - (j + 1), by omega, h₉, tk', j + 1, vs₆ ++ [.int (ns i j) t'], rfl, hjk, rfl, ⟨F₈.change hs₉ (Ne.symm (Nat.ne_of_lt hLD)) (new₀ Da (Nat.le_refl _)), fun p hp => ⟨hs₉.extBut _ _ (Nat.ne_of_lt (hnD p hp)) (N₈ p hp).1, (N₈ p hp).2⟩, (b₇.it.at fun o => hs₈.extBut _ o CI.symm).at fun o => hs₉.extBut _ o DI.symm, (b₇.sq.at fun o => hs₈.extBut _ o (neC hlD)).at fun o => hs₉.extBut _ o (Nat.ne_of_lt hlD),
            ⟨_, hn₈.sameBut hs₉ hDC.symm, fun q => by simp only [if_neg hxy]; exact e₇ q⟩, hD₉.trans (congrArg some (lst_snoc vs₆ _))⟩, hs₉.extBut _ _ (Jne hDt).symm it₈, ?_⟩
          rw [twoVals_step]
          exact hI₆.append (.cons _ _ .nil)
        · obtain rfl : j = k := Nat.le_antisymm hj (Nat.not_lt.mp hjk)
          refine W.done _ _ _ it₆ fun h₇ tk₇ k₇ => ?_
          have b₇ := low b₆ (h' := h₇) fun c o hc e => k₇ c o (by simpa using Jne hc) e
          refine ⟨n + 1 - (i + 1), by omega, h₇, tk₇, i + 1, vs₆, rfl, hlt, rfl, ⟨b₇.fr, b₇.nw, b₇.it, b₇.sq, (let ⟨m', hm, _⟩ := b₇.ns; ⟨m', hm, fun q => absurd rfl q⟩), b₇.acc⟩, ?_⟩
          rw [← twoVals_row]
          exact hI₆
      exact start_in (inner _ rfl) (wpAny_pyIter_rangeiter it₅ (inner _ rfl))
    · obtain rfl : i = n := Nat.le_antisymm hi (Nat.not_lt.mp hlt)
      refine sq_over hh b.it b.sq (by simp [hxs]) fun h₂ k₂ => ?_
      obtain ⟨m', hn', -⟩ := b.ns
      have CI : Ca ≠ I := (neC hI).symm
      have LI : L ≠ I := fun q => by have := F.ns.lt; rw [hIa, q] at this; exact Nat.lt_irrefl _ this
      have hI₀ : ∀ c o, h₀.get? c = some o → c ≠ I := fun c o e q => by have := Heap.lt_size (F.keep c o e); rw [hIa, q] at this; exact Nat.lt_irrefl _ this
      have nI : ∀ p ∈ news, p.1 ≠ I := fun p hp q => by have := Heap.lt_size (N p hp).1; rw [hIa, q] at this; exact Nat.lt_irrefl _ this
      refine ⟨m', hn'.at' fun o e => k₂ _ o CI e, fun h'' hs'' => ?_⟩
      have F₂ : Fr h₀ L h₂ m := ⟨b.fr.ns.at' fun o e => k₂ _ o LI e, fun c o e => k₂ c o (hI₀ c o e) (b.fr.keep c o e), b.fr.above⟩
      refine fin Da h'' _ vs (F₂.change hs'' (neC hLD).symm (new₀ Ca (by rw [hC]; exact Nat.le_succ _))) (fun p hp => ?_) hnD hI'
      rcases List.mem_cons.mp hp with rfl | hp
      · exact ⟨hs''.extBut _ _ hDC (k₂ _ _ (Nat.ne_of_lt hI).symm b.acc), (Nat.ne_of_lt hLD).symm, new₀ Da (Nat.le_refl _)⟩
      · exact ⟨hs''.extBut _ _ (neC (hnD p hp)) (k₂ _ _ (nI p hp) (b.nw p hp).1), (b.nw p hp).2⟩
  exact codeAny_compStart_list (loop _ rfl) (sq_self (s := { s₁ with heap := g₁, toks := _ }) (itG.at fun o => old _ o) (loop _ rfl))
end
end Mine

-- W5
namespace Mine

/-! the digest, plain -/
def blkOf (ps : List Int) (i : Nat) : List Int := (ps.drop (64 * i)).take 64
def runs (ps : List Int) : Nat → S4 → S4
  | 0, x => x
  | n + 1, x => blockN (wd (blkOf ps n)) (runs ps n x)
def start : S4 := (1732584193, 4023233417, 2562383102, 271733878)
theorem runs_ok (ps : List Int) : ∀ n, Ok4 (runs ps n start)
  | 0 => by unfold runs start Ok4; decide
  | _ + 1 => blockN_ok
def octs (x : S4) : List Int := twoVals 4 (fun i j => ((q4 x i / 256 ^ j % 256 : Nat) : Int)) 4 0
def blocks (n : Nat) : Nat := (n + 9 + fillN n) / 64
theorem blocks_eq (n : Nat) : n + 9 + fillN n = 64 * blocks n := by unfold blocks fillN; omega
def dig (ks : List Int) : List Int := octs (runs (padL ks) (blocks ks.length) start)
theorem dig_def (ks : List Int) : dig ks = octs (runs (padL ks) (blocks ks.length) start) := by unfold dig; rfl
theorem twoVals_in {k : Nat} {f : Nat → Nat → Nat} {i j : Nat} (h : ∀ a c, f a c < 256) : KBa.In (twoVals k (fun a c => ((f a c : Nat) : Int)) i j) := by
  intro v hv
  have : ∃ a c, v = ((f a c : Nat) : Int) := by
    unfold twoVals at hv
    rcases List.mem_append.mp hv with hv | hv
    · obtain ⟨a, _, hv⟩ := List.mem_flatMap.mp hv
      obtain ⟨c, _, rfl⟩ := List.mem_map.mp hv
      exact ⟨a, c, rfl⟩
    · obtain ⟨c, _, rfl⟩ := List.mem_map.mp hv
      exact ⟨i, c, rfl⟩
  obtain ⟨a, c, rfl⟩ := this
  have := h a c
  omega
theorem octs_in (x : S4) : KBa.In (octs x) := twoVals_in fun a c => Nat.mod_lt _ (by decide)
theorem octs_len (x : S4) : (octs x).length = 16 := twoVals_len _ _ _ _
theorem dig_len (ks : List Int) : (dig ks).length = 16 := by rw [dig_def]; exact octs_len _
theorem blk_len {ps : List Int} {i nb : Nat} (h : ps.length = 64 * nb) (hi : i < nb) : (blkOf ps i).length = 64 := by
  unfold blkOf
  rw [List.length_take, List.length_drop]
  omega
theorem slice_blk {ps : List Int} {i nb : Nat} {v : Int} (h : ps.length = 64 * nb) (hi : i < nb) (hv : v = 0 + (i : Int) * 64) :
    List.take (clipAt ps.length (v + 64) - clipAt ps.length v) (List.drop (clipAt ps.length v) ps) = blkOf ps i := by
  have e1 : clipAt ps.length (v + 64) = 64 * i + 64 := by unfold clipAt; omega
  have e2 : clipAt ps.length v = 64 * i := by unfold clipAt; omega
  rw [e1, e2, show 64 * i + 64 - 64 * i = 64 by omega]
  rfl
theorem range_size {n nb : Nat} (h : n = 64 * nb) : Builtin.Range.rangeSize 0 (n : Int) 64 = (nb : Int) := by
  subst h
  unfold Builtin.Range.rangeSize
  rw [if_pos (by decide)]
  split <;> omega
theorem fits_long {i : Int} (h : 0 ≤ i) (h' : i ≤ 1000000) : Builtin.Range.rangeFitsLong i = true := by
  unfold Builtin.Range.rangeFitsLong
  rw [Bool.and_eq_true, decide_eq_true_iff, decide_eq_true_iff]
  omega
theorem range_small {n nb : Nat} (h : n = 64 * nb) (hb : n ≤ 65536) : Builtin.Range.small 0 (n : Int) 64 = true := by
  unfold Builtin.Range.small
  rw [range_size h, fits_long (by decide) (by decide), fits_long (by omega) (by omega), fits_long (by decide) (by decide), fits_long (by omega) (by omega), if_pos (by decide), fits_long (by omega) (by omega)]
  simp
theorem K15 (w : World) : (hd.heap_39 w.params).lookup 15 = some (tupO [.int ((1732584193 : Nat) : Int) 193, .int ((4023233417 : Nat) : Int) 194, .int ((2562383102 : Nat) : Int) 195, .int ((271733878 : Nat) : Int) 196]) := by rfl

theorem bytes_of {b : Array UInt8} {t : Tok} {ps : List Int} {h₀ h : Heap} {L D a : Addr} {news : List (Addr × Obj)} (hb : KBw.bInts b = ps) (_ : News h₀ L h ((D, ({ cls := .type "tuple", data := .seq #[.bytes b t, .ref a] } : Obj)) :: news)) : ∃ b' t', KBw.bInts b' = ps ∧ b' = b ∧ t' = t := ⟨b, t, hb, rfl, rfl⟩

theorem news_tup {h₀ h : Heap} {L a : Addr} {A B C D : Int} {u0 u1 u2 u3 : Tok} {r : List (Addr × Obj)} (_ : News h₀ L h ((a, tupO [.int A u0, .int B u1, .int C u2, .int D u3]) :: r)) : ∃ a' v0 v1 v2 v3, a' = a ∧ v0 = u0 ∧ v1 = u1 ∧ v2 = u2 ∧ v3 = u3 := ⟨a, u0, u1, u2, u3, rfl, rfl, rfl, rfl, rfl⟩
structure MSt where
  own : List (Addr × Obj)
  st : Addr
  x : S4
  t0 : Tok
  t1 : Tok
  t2 : Tok
  t3 : Tok
abbrev MSt.vs (c : MSt) : List Value := [.int (c.x.1 : Nat) c.t0, .int (c.x.2.1 : Nat) c.t1, .int (c.x.2.2.1 : Nat) c.t2, .int (c.x.2.2.2 : Nat) c.t3]
abbrev mkM (a : Addr) (x : S4) (v0 v1 v2 v3 : Tok) : MSt := ⟨[(a, tupO [.int (x.1 : Nat) v0, .int (x.2.1 : Nat) v1, .int (x.2.2.1 : Nat) v2, .int (x.2.2.2 : Nat) v3])], a, x, v0, v1, v2, v3⟩
theorem StAt.up {w : World} {news nx : List (Addr × Obj)} {st : Addr} {vs : List Value} (S : StAt w news st vs) (sub : ∀ p ∈ news, p ∈ nx) : StAt w nx st vs := S.elim (fun h => .inl (sub _ h)) .inr
local macro_rules | `(tactic| kba_size) => `(tactic| omega)
local macro_rules | `(tactic| walk_at $k) => if ["pyIter ref", "call ref", "eval ListComp", "call builtin:len"].contains k.getString then `(tactic| refine Stop.out ?_) else Lean.Macro.throwUnsupported
local macro_rules | `(tactic| walk_at "eval Name") => `(tactic| refine ldVarK (by assumption) (by assumption) ?_)
section
variable {w : World} {p : Program} {loose : List Str} {mean : ExcName → Option Value} {mg mb : Str → Option Value}

theorem md5_tl (news : List (Addr × Obj)) (bb : Array UInt8) (t : Tok) (ks : List Int) (hk : KBw.bInts bb = ks) (hl : ks.length ≤ 4096) :
   Tl w p loose mean mg mb 57 news [.bytes bb t] 3 (fun tl r => tl = [] ∧ ∃ b' t', r = .bytes b' t' ∧ KBw.bInts b' = dig ks) := by
  w_top off
  unfold Tl
  k_fill
  intro dp un gd cn cs a ccd cl outer A₀ base h₀ L m s Q E B F X N T hkf hd hu hret
  have hpl : (padL ks).length = 64 * blocks ks.length := by rw [padL_len, blocks_eq]
  have hnb : (padL ks).length ≤ 4200 := by
    rw [padL_len]; unfold fillN; omega
  refine wpAny_call ?_
  k_dflt ktr_enter
  k_steps
  refine Stop.in ?_
  refine tl_use (by k_asm) (by k_asm) (by k_asm) (by k_asm) (by k_asm) (filled_tl _ _ _ _ hk hl) (by first | exact rfl | assumption) (by ktr_room) (by ktr_units) ?_
  rintro r9 tl9 h9 tk9 F9 N9 o9 ⟨rfl, b9, t9, rfl, i9⟩
  simp only [List.nil_append] at N9
  k_steps
  refine Stop.in ?_
  refine KBw.len_K i9 (by omega) ?_
  k_steps
  refine Stop.in ?_
  with_reducible rename Fr _ _ _ _ => lF
  with_reducible rename News _ _ _ _ => lN
  rename IsRange _ _ _ _ _ _ _ _ => rgX
  obtain ⟨b9, t9, hb9, e1, e2⟩ := bytes_of (by assumption : KBw.bInts _ = padL ks) lN
  subst e1 e2
  refine range_st (σ := MSt) (fun c => [(Str.ofString "whole", .bytes b9 t9), (Str.ofString "state", .ref c.st)]) (fun c => c.own ++ news) (fun i c => c.x = runs (padL ks) i start ∧ StAt w (c.own ++ news) c.st c.vs) ⟨[], 15, start, 193, 194, 195, 196⟩ (blocks ks.length) (by rfl) rgX (range_small hpl (by omega)) (range_size hpl) lF (fun p hp => lN p (.tail _ hp)) ?_ ?_ ?_ ?_
  · exact ⟨rfl, .inr (K15 w)⟩
  · k_dflt (simp only [List.forall_mem_cons]; refine ⟨by with_unfolding_all rfl, by with_unfolding_all rfl, fun _ h => nomatch h⟩)
  · clear lF lN rgX
    rintro I ⟨own, st, ⟨x1, x2, x3, x4⟩, t0, t1, t2, t3⟩ i u v t' h tk hi ⟨hP, hst⟩ hv off lF lN
    dsimp only at hP hst off
    have hok : Ok4 (x1, x2, x3, x4) := by rw [hP]; exact runs_ok _ _
    dsimp only [MSt.vs] at hst
    k_steps
    refine Stop.in ?_
    refine tl_use (by k_asm) (by k_asm) (by k_asm) (by k_asm) (by k_asm) (block_digest_tl _ _ _ _ _ _ _ _ _ _ (StAt.up hst (by intro p hp; repeat (first | exact hp | refine List.mem_cons_of_mem _ ?_))) _ _ _ ((by assumption : KBw.bInts (KBy.picked _ _ _) = _).trans (slice_blk (by assumption) (by assumption) (by assumption))) (blk_len (by assumption) (by assumption)) (by assumption)) (by first | exact rfl | assumption) (by ktr_room) (by ktr_units) ?_
    rintro r9 tl9 h9 tk9 F9 N9 o9 ⟨a9, u0, u1, u2, u3, rfl, rfl⟩
    simp only [List.nil_append, List.cons_append] at N9
    k_steps
    with_reducible rename Fr _ _ _ _ => lF2
    with_reducible rename News _ _ _ _ => lN2
    obtain ⟨a9, v0, v1, v2, v3, e1, e2, e3, e4, e5⟩ := news_tup lN2
    subst e1 e2 e3 e4 e5
    have o8 := (by assumption : ∀ q ∈ ((I, krsIt _ _ _) :: _ : List (Addr × Obj)), ∀ p ∈ [(a9, _)], q.1 < p.1)
    refine TurnEnd.next (mkM a9 (blockN (wd (blkOf (padL ks) i)) (x1, x2, x3, x4)) v0 v1 v2 v3) lF2 lN2 ?hps ?sub ?off ⟨?fin1, .inl (List.mem_append.mpr (.inl (List.mem_singleton.mpr rfl)))⟩
    case hps =>
      k_dflt (simp only [List.forall_mem_cons]; refine ⟨by with_unfolding_all rfl, by with_unfolding_all rfl, fun _ h => nomatch h⟩)
    case sub =>
      intro p hp
      rcases List.mem_cons.mp hp with rfl | hp
      · exact .tail _ (.head _)
      · rcases List.mem_cons.mp hp with rfl | hp
        · exact .head _
        · exact .tail _ (.tail _ (List.mem_append.mpr (.inr hp)))
    case off =>
      intro p hp
      rcases List.mem_cons.mp hp with rfl | hp
      · exact Nat.ne_of_gt (o8 _ (.head _) _ (.head _))
      · exact off p (List.mem_append.mpr (.inr hp))
    case fin1 =>
      show _ = blockN (wd (blkOf (padL ks) i)) (runs (padL ks) i start)
      rw [← hP]
  · clear lF lN rgX
    rintro ⟨own, st, ⟨x1, x2, x3, x4⟩, t0, t1, t2, t3⟩ u h tk ⟨hP, hst⟩ lF lN
    dsimp only at hP hst
    dsimp only [MSt.vs] at hst
    k_steps
    refine Stop.in ?_
    refine comp_two (by k_asm) (by with_unfolding_all rfl) (by decide) (by rfl) (by decide) (by rfl) (by rfl) (by decide) ?_
    walk1
    refine ⟨true, st, _, own ++ news, 4, 4, fun i j => ((q4 (x1, x2, x3, x4) i / 256 ^ j % 256 : Nat) : Int), rfl, rfl, StAt.tup hst lF (by k_asm) lN (fun p hp => hp), lF, lN, rfl, by rw [sizeLine_eq]; decide, ?hin, ?helt, ?fin2⟩
    case hin =>
      intro i C m₂ va g tk8 Q' E' hi hns ea ma F8 N8 hq
      k_steps
      exact hq _ _ _ _ _ _ (by assumption) (by decide) (by decide) (by assumption)
    case helt =>
      intro i j C m₂ va tj g tk8 Q' E' hi hj hns ea ma mb F8 N8 hq
      obtain ⟨ua, rfl⟩ : ∃ ua, va = .int ((q4 (x1, x2, x3, x4) i : Nat) : Int) ua := four_at hi ea
      k_steps
      exact q_int (oct_eq _ _) (hq _ _)
    case fin2 =>
      intro D g tk8 vs F8 N8 l8 hI
      k_steps
      refine KBa.make_K F8 N8 (by rfl) (News.isList N8 (.head _)) hI (octs_in (x1, x2, x3, x4)) (by rw [twoVals_len]; decide) ?_
      intro h8 t8 k8 F9 N9 i8
      have e8 : KBw.bInts (byteArr (octs (x1, x2, x3, x4))) = dig ks := by
        rw [KBa.ints_make (octs_in _), hP, dig_def]
      k_steps
      exact hret _ [] _ _ (by k_asm) (drop_to (by k_asm) (fun p hp => .tail _ (List.mem_append.mpr (.inr hp)))) no_tl ⟨rfl, _, _, rfl, e8⟩
end
end Mine

-- CW
namespace Mine
open PyProof.Rows.LCg
section
variable {prog : Program} {w : World} {A : Around} {E : Value → Shared → Prop} {s : Shared} {h₀ : Heap} {L : Addr} {m : Str → Option Value} {env : Env}
/-- a comprehension's source: any iterator that walks -/
def SrcW (prog : Program) (w : World) (A : Around) (E : Value → Shared → Prop) (h₀ : Heap) (L : Addr) (m : Str → Option Value) (env : Env) (elt : Expr) (x : Str) (scope : Scope) (cl : List (Str × Addr)) (Q : Value → Shared → Prop) (xv : Value) (s₁ : Shared) : Prop :=
  wpAny (model prog w) A (pyIter xv) (fun it s₂ => ∃ (I : Addr) (fp : List Addr) (n : Nat) (P : Nat → Value → Prop) (St : Nat → Heap → Prop) (S : List (Addr × Obj) → Prop) (news : List (Addr × Obj)), it = .ref I ∧ Walks prog w A I fp [I] n P St ∧ n ≤ sizeLine ∧
    (∀ i h, St i h → ∃ o, h.get? I = some o) ∧ (∀ i h h' o nw, St i h → h.get? I = some o → h'.get? I = some o → (∀ b o, h₀.get? b = some o → h'.get? b = some o) → News h₀ L h' nw → S nw → St i h') ∧
    St 0 s₂.heap ∧ (∀ b ∈ fp, b < s₂.heap.objs.size) ∧ Fr h₀ L s₂.heap m ∧ News h₀ L s₂.heap news ∧ L ≠ I ∧ h₀.get? I = none ∧ (∀ p ∈ news, p.1 ≠ I) ∧ S news ∧
    CompRest prog w A h₀ L m env elt x scope cl s₂ S P (FinE h₀ L m s₂ Q) n 0 [] news) E s₁
theorem comp_walk {elt iter : Expr} {x : Str} {px : Pos} {scope : Scope} {cl : List (Str × Addr)} {pos : Pos} {Q : Value → Shared → Prop} (_F₀ : Fr h₀ L s.heap m)
    (hclos : closureFor scope env = pure cl) (hcell : ∀ y ∈ scope.names, y.2 ≠ .cell) (hkind : scope.kind = .function)
    (hnames : ∀ y ∈ scope.names, y.2 = .local → scope.names.lookup y.1 = some .local) (hx : scope.names.lookup x = some .local)
    (h : wpAny (model prog w) A (eval iter env) (SrcW prog w A E h₀ L m env elt x scope cl Q) E s)
    (hs : ∀ x, foldedSetIterable iter env x = pure x := by intro _; rfl) :
    wpAny (model prog w) A (eval (.ListComp elt [⟨.Name x px, iter, [], 0⟩] scope pos) env) Q E s := by
  rw [eval_ListComp]
  refine wpAny_comprehension_free (use := none) rfl hs hclos hkind hnames (wpAny_mono h (fun xv s₁ h₁ => ?_) fun _ _ e => e)
  refine wpAny_mono h₁ (fun it s₂ h₂ => ?_) fun _ _ e => e
  obtain ⟨I, fp, n, P, St, S, news, rfl, W, hsz, hIo, hSt, hst, hfp, F, N, hLI, hI₀, off, hS, R⟩ := h₂
  refine block_U W hsz hIo hSt hcell hkind hx hst hfp F N hLI hI₀ off hS R ?_
  intro D C h tk m' ys news' F' N' o1 hn hC₀ hD₀ hCL hDL hCD offC fin
  refine ⟨m', hn, fun h'' hs'' => fin D h'' tk (F'.change hs'' hCL hC₀) (fun p hp => ?_) o1⟩
  refine ⟨hs''.extBut _ _ ?_ (N' p hp).1, (N' p hp).2⟩
  rcases List.mem_cons.mp hp with rfl | hp
  · exact Ne.symm hCD
  · exact offC p hp

/-- elements that leave the heap as it is -/
theorem pure_rest {elt : Expr} {x : Str} {scope : Scope} {cl : List (Str × Addr)} {S : List (Addr × Obj) → Prop} {P : Nat → Value → Prop} {Fin : List Value → List (Addr × Obj) → Prop} {n : Nat} {news : List (Addr × Obj)} (ns : Nat → Int) (hS : S news)
    (helt : ∀ i v I oI C oC D m₂ ys g tk (Q' E' : Value → Shared → Prop), i < n → P i v → NsObj oC m₂ → m₂ x = some v → Fr h₀ L g m → News h₀ L g ((I, oI) :: (C, oC) :: (D, lst ys) :: news) → g.Ns C m₂ →
      (∀ t' tk', Q' (.int (ns i) t') { s with heap := g, toks := tk' }) → wpAny (model prog w) A (eval elt (compEnvC scope cl C env)) Q' E' { s with heap := g, toks := tk })
    (fin : ∀ ys, IntsAre ys ((List.range n).map ns) → Fin ys news) :
    ∀ k i ys, i + k = n → IntsAre ys ((List.range i).map ns) → CompRest prog w A h₀ L m env elt x scope cl s S P Fin k i ys news := by
  intro k
  induction k with
  | zero =>
    intro i ys hi hI
    obtain rfl : i = n := by omega
    exact CompRest.zero (fin ys hI)
  | succ k ih =>
    intro i ys hi hI
    refine CompRest.succ fun v I oI C oC D m₂ h tk E' hP hC hx F N off ne => ?_
    have hns : h.Ns C m₂ := hC.ns (N (C, oC) (.tail _ (.head _))).1
    refine helt i v I oI C oC D m₂ ys h tk _ _ (by omega) hP hC hx F N hns fun t' tk' => ?_
    refine CompEnd.intro F N news (fun p hp => hp) off hS (ih (i + 1) _ (by omega) ?_)
    rw [List.range_succ, List.map_append]
    exact hI.append (.cons _ _ .nil)
theorem src_bytes {elt : Expr} {x : Str} {scope : Scope} {cl : List (Str × Addr)} {Q : Value → Shared → Prop} {b : Array UInt8} {t : Tok} {ks : List Int} {news : List (Addr × Obj)} (f : Int → Int) (hk : KBw.bInts b = ks) (hh : A.handled = none) (F : Fr h₀ L s.heap m) (N : News h₀ L s.heap news) (hsz : ks.length ≤ sizeLine)
    (helt : ∀ v tv C m₂ g tk (Q' E' : Value → Shared → Prop), v ∈ ks → 0 ≤ v → v < 256 → g.Ns C m₂ → m₂ x = some (.int v tv) → Fr h₀ L g m → News h₀ L g news →
      (∀ t' tk', Q' (.int (f v) t') { s with heap := g, toks := tk' }) → wpAny (model prog w) A (eval elt (compEnvC scope cl C env)) Q' E' { s with heap := g, toks := tk })
    (fin : ∀ D g tk vs, Fr h₀ L g m → News h₀ L g ((D, lst vs) :: news) → IntsAre vs (ks.map f) → Q (.ref D) { s with heap := g, toks := tk }) :
    SrcW prog w A E h₀ L m env elt x scope cl Q (.bytes b t) s := by
  subst hk
  refine KBw.pyIter_bytes ?_
  have e : ((List.range b.size).map fun i => f ((KBw.bInts b).getD i 0)) = (KBw.bInts b).map f := by
    apply List.ext_getElem?
    intro i
    simp only [List.getElem?_map]
    by_cases hi : i < b.size
    · have : i < (KBw.bInts b).length := by rw [KBw.ints_length]; exact hi
      simp [hi, this, List.getD]
    · have : ¬ i < (KBw.bInts b).length := by rw [KBw.ints_length]; exact hi
      simp [hi, this]
  refine ⟨_, _, b.size, _, _, fun _ => True, news, rfl, KBw.walks hh _ b t, by rw [← KBw.ints_length]; exact hsz, ?_, ?_, ⟨_, Heap.get?_push_size _ rfl, rfl, rfl⟩, ?_, F.push _, fun p hp => ⟨Heap.get?_push_of_some _ (N p hp).1, (N p hp).2⟩, Nat.ne_of_lt F.ns.lt, next_is_new F, fun p hp => Nat.ne_of_lt (Heap.lt_size (N p hp).1), trivial, ?_⟩
  · rintro i h ⟨o, ho, _⟩
    exact ⟨o, ho⟩
  · rintro i h h' o nw ⟨o', ho, r⟩ e1 e2 _ _ _
    rw [e1] at ho; cases ho
    exact ⟨o, e2, r⟩
  · intro c hc
    rw [List.mem_singleton.mp hc]
    show _ < (s.heap.push _).objs.size
    rw [Heap.size_push]; exact Nat.lt_succ_self _
  · refine pure_rest (n := b.size) (fun i => f ((KBw.bInts b).getD i 0)) trivial ?_ ?_ b.size 0 [] (by omega) .nil
    · rintro i v I oI C oC D m₂ ys g tk Q' E' hi ⟨c, u, hc, rfl⟩ _ hx F' N' hns hq
      have hg := KBw.ints_get hc
      have hv : (KBw.bInts b).getD i 0 = (c.toNat : Int) := by simp [List.getD, hg]
      have hm : ((c.toNat : Int)) ∈ KBw.bInts b := List.mem_of_getElem? hg
      have hr := KBw.ints_in hm
      dsimp only at hq
      rw [hv] at hq
      exact helt _ u C m₂ g tk Q' E' hm hr.1 hr.2 hns hx F' (fun p hp => N' p (.tail _ (.tail _ (.tail _ hp)))) hq
    · intro ys hI D h tk F' N' o1
      rw [e] at hI
      exact fin D h tk ys F' N' hI
end
end Mine

-- XC
namespace Mine
open PyProof.Rows.LCg
def xorL (c : Nat) (ks : List Int) : List Int := ks.map fun v => ((v.toNat ^^^ c : Nat) : Int)
theorem xorL_len (c : Nat) (ks : List Int) : (xorL c ks).length = ks.length := by simp [xorL]
theorem xorL_in {c : Nat} {ks : List Int} (hc : c < 256) (h : KBa.In ks) : KBa.In (xorL c ks) := by
  intro v hv
  obtain ⟨u, hu, rfl⟩ := List.mem_map.mp hv
  have := h u hu
  have := Nat.xor_lt_two_pow (n := 8) (show u.toNat < 2 ^ 8 by omega) (show c < 2 ^ 8 by omega)
  omega
theorem in_bytes {b : Array UInt8} {ks : List Int} (h : KBw.bInts b = ks) : KBa.In ks := fun k hk => KBw.ints_in (h ▸ hk)
section
variable {prog : Program} {w : World} {A : Around} {E : Value → Shared → Prop} {s : Shared} {h₀ : Heap} {L : Addr} {m : Str → Option Value} {env : Env}
def XSrc (h₀ : Heap) (L : Addr) (m : Str → Option Value) (A : Around) (c : Nat) (Q : Value → Shared → Prop) (xv : Value) (s₁ : Shared) : Prop :=
  ∃ (b : Array UInt8) (t : Tok) (ks : List Int) (news : List (Addr × Obj)), xv = .bytes b t ∧ A.handled = none ∧ KBw.bInts b = ks ∧ Fr h₀ L s₁.heap m ∧ News h₀ L s₁.heap news ∧ ks.length ≤ sizeLine ∧
    ∀ D g tk vs, Fr h₀ L g m → News h₀ L g ((D, lst vs) :: news) → IntsAre vs (xorL c ks) → Q (.ref D) { s₁ with heap := g, toks := tk }
theorem XSrc.mk {c : Nat} {Q : Value → Shared → Prop} {b : Array UInt8} {t : Tok} {ks : List Int} {news : List (Addr × Obj)} {s₁ : Shared} (hk : KBw.bInts b = ks) (hh : A.handled = none) (F : Fr h₀ L s₁.heap m) (N : News h₀ L s₁.heap news) (hz : ks.length ≤ 65536)
    (fin : ∀ D g tk vs, Fr h₀ L g m → News h₀ L g ((D, lst vs) :: news) → IntsAre vs (xorL c ks) → Q (.ref D) { s₁ with heap := g, toks := tk }) : XSrc h₀ L m A c Q (.bytes b t) s₁ := ⟨b, t, ks, news, rfl, hh, hk, F, N, by rw [sizeLine_eq]; omega, fin⟩
theorem xor_comp {x : Str} {p1 p2 p3 : Pos} {k : Nat} {z : Int} (c : Nat) (hz : z = (c : Int)) {iter : Expr} {px : Pos} {scope : Scope} {cl : List (Str × Addr)} {pos : Pos} {Q : Value → Shared → Prop} (_F₀ : Fr h₀ L s.heap m)
    (hclos : closureFor scope env = pure cl) (hcell : ∀ y ∈ scope.names, y.2 ≠ .cell) (hkind : scope.kind = .function)
    (hnames : ∀ y ∈ scope.names, y.2 = .local → scope.names.lookup y.1 = some .local) (hx : scope.names.lookup x = some .local) (hd : (x == ("__debug__" : Str)) = false)
    (h : wpAny (model prog w) A (eval iter env) (XSrc h₀ L m A c Q) E s)
    (hs : ∀ x, foldedSetIterable iter env x = pure x := by intro _; rfl) :
    wpAny (model prog w) A (eval (.ListComp (.BinOp (.Name x p1) .BitXor (.Constant (.int z) k p2) p3) [⟨.Name x px, iter, [], 0⟩] scope pos) env) Q E s := by
  refine comp_walk _F₀ hclos hcell hkind hnames hx (wpAny_mono h (fun xv s₁ h₁ => ?_) fun _ _ e => e) hs
  obtain ⟨b, t, ks, news, rfl, hh, hk, F, N, hz', fin⟩ := h₁
  refine src_bytes (fun v => ((v.toNat ^^^ c : Nat) : Int)) hk hh F N hz' ?_ fun D g tk vs F' N' hI => fin D g tk vs F' N' hI
  intro v tv C m₂ g tk Q' E' hm h0 h1 hns hxv F' N' hq
  obtain ⟨n, rfl⟩ : ∃ n : Nat, v = (n : Int) := ⟨v.toNat, by omega⟩
  have hl : (compEnvC scope cl C env).kindOf x = some .local := lookup_relabel_local hx
  subst hz
  refine wpAny_BinOp (ldVarK hns hxv (wpAny_Constant_int (xor_int ?_)) hkind hl hd)
  rw [bxor_nn]
  exact hq _ _
end
end Mine

-- W6
namespace Mine
local macro_rules | `(tactic| walk_at "nobody asks 0") => `(tactic| skip)
def hold (kk : List Int) : List Int := if 64 < kk.length then dig kk else kk
def held (kk : List Int) : List Int := hold kk ++ List.replicate (64 - (hold kk).length) 0
theorem held_len (kk : List Int) : (held kk).length = 64 := by
  unfold held
  have : (hold kk).length ≤ 64 := by
    unfold hold
    split
    · rw [dig_len]; decide
    · omega
  simp; omega
def hmac (kk ko : List Int) : List Int := dig (xorL 92 (held kk) ++ dig (xorL 54 (held kk) ++ ko))
theorem dig_in (ks : List Int) : KBa.In (dig ks) := by rw [dig_def]; exact octs_in _

local macro_rules | `(tactic| kba_size) => `(tactic| omega)

def HeldAt (h₀ : Heap) (L : Addr) (m : Str → Option Value) (news : List (Addr × Obj)) (kk : List Int) (s : Shared) (v : Value) (s' : Shared) : Prop := ∃ (b : Array UInt8) (t : Tok) (h' : Heap) (tk' : Nat), v = .bytes b t ∧ s' = { s with heap := h', toks := tk' } ∧ Fr h₀ L h' m ∧ News h₀ L h' news ∧ KBw.bInts b = hold kk
theorem held_cut {M : Model} {A : Around} {t : Sem Value} {Q E : Value → Shared → Prop} {s : Shared} {h₀ : Heap} {L : Addr} {m : Str → Option Value} {news : List (Addr × Obj)} (kk : List Int) (_ : Fr h₀ L s.heap m) (_ : News h₀ L s.heap news) (h : wpAny M A t (HeldAt h₀ L m news kk s) E s) (k : ∀ b t h' tk', KBw.bInts b = hold kk → Fr h₀ L h' m → News h₀ L h' news → Q (.bytes b t) { s with heap := h', toks := tk' }) : wpAny M A t Q E s :=
  wpAny_mono h (fun _ _ ⟨b, t, h', tk', e1, e2, F, N, i⟩ => by subst e1 e2; exact k b t h' tk' i F N) fun _ _ e => e
theorem hold_len (kk : List Int) : (hold kk).length ≤ 64 := by
  unfold hold
  split
  · rw [dig_len]; decide
  · omega
local macro_rules | `(tactic| walk_at $k) => if ["call ref", "eval IfExp", "call type:bytes", "binaryOp Add bytes bytes", "eval ListComp"].contains k.getString then `(tactic| refine Stop.out ?_) else Lean.Macro.throwUnsupported
local macro_rules | `(tactic| walk_at "call builtin:len") => `(tactic| ((with_reducible show wpAny _ _ (call _ [Value.bytes _ _]) _ _ _); (refine KBw.len_K (by with_reducible assumption) (by omega) ?_)))
section
variable {w : World} {p : Program} {loose : List Str} {mean : ExcName → Option Value} {mg mb : Str → Option Value}

theorem with_key_tl (news : List (Addr × Obj)) (kb ob : Array UInt8) (tk to : Tok) (kk ko : List Int) (hkk : KBw.bInts kb = kk) (hko : KBw.bInts ob = ko) (hl : kk.length ≤ 2000) (hlo : ko.length ≤ 2000) :
   Tl w p loose mean mg mb 62 news [.bytes kb tk, .bytes ob to] 4 (fun tl r => tl = [] ∧ ∃ b' t', r = .bytes b' t' ∧ KBw.bInts b' = hmac kk ko) := by
  w_top off
  unfold Tl
  k_fill
  intro dp un gd cn cs a ccd cl outer A₀ base h₀ L m s Q E B F X N T hkf hd hu hret
  have d1 := dig_len kk
  refine wpAny_call ?_
  k_dflt ktr_enter
  k_steps
  refine Stop.in ?_
  refine held_cut kk (by k_asm) (by k_asm) ?_ ?_
  · refine IfExp_ ?_
    k_steps
    · refine Stop.in ?_
      refine tl_use (by k_asm) (by k_asm) (by k_asm) (by k_asm) (by k_asm) (md5_tl _ _ _ _ hkk (by omega)) (by first | exact rfl | assumption) (by ktr_room) (by ktr_units) ?_
      rintro r9 tl9 h9 tk9 F9 N9 o9 ⟨rfl, bh, tbh, rfl, ih⟩
      clear o9
      simp only [List.nil_append] at N9
      k_steps
      exact ⟨_, _, _, _, rfl, rfl, by k_asm, by k_asm, ih.trans (if_pos (by omega)).symm⟩
    · refine Stop.in ?_
      refine call_bytes_bytes ?_
      exact ⟨_, _, _, _, rfl, rfl, by k_asm, by k_asm, hkk.trans (if_neg (by omega)).symm⟩
  intro bh tbh h9 tk9 ih F9 N9
  have d2 := hold_len kk
  k_steps
  refine Stop.in ?_
  refine call_bytes_int (n := 64 - (hold kk).length) (by omega) (by omega) ?_
  intro t7 k7 hz7
  k_steps
  refine Stop.in ?_
  refine KBa.add_K (by with_reducible assumption) (by with_reducible assumption) (by simp only [List.length_append, List.length_replicate, xorL_len, dig_len]; omega) ?_
  intro _ _ kbaApp
  k_steps
  refine Stop.in ?_
  k_dflt (refine xor_comp 54 (by decide) (by k_asm) (by with_unfolding_all rfl) (by decide) (by rfl) (by decide) (by rfl) (by decide) ?_)
  k_steps
  refine XSrc.mk (by with_reducible assumption) (by rfl) (by k_asm) (by k_asm) (by first | omega | ((simp only [List.length_append, List.length_replicate, xorL_len, dig_len]); omega)) ?_
  intro D8 g8 k8 vs8 F8 N8 hI8
  k_steps
  refine Stop.in ?_
  k_dflt (refine KBa.make_K (by k_asm) (by k_asm) (by rfl) (News.isList (by k_asm) (by k_mem)) hI8 (xorL_in (by decide) (in_bytes (by with_reducible assumption))) (by simp only [List.length_append, List.length_replicate, xorL_len, dig_len]; omega) ?_)
  intro h8 t8 k8 F8 N8 i8
  have e54 := KBa.ints_make i8
  clear i8 hI8
  k_steps
  refine Stop.in ?_
  refine call_bytes_bytes ?_
  k_steps
  refine Stop.in ?_
  refine KBa.add_K (by with_reducible assumption) (by with_reducible assumption) (by simp only [List.length_append, List.length_replicate, xorL_len, dig_len]; omega) ?_
  intro _ _ kbaApp
  k_steps
  refine Stop.in ?_
  refine tl_use (by k_asm) (by k_asm) (by k_asm) (by k_asm) (by k_asm) (md5_tl _ _ _ _ (by with_reducible assumption) (by simp only [List.length_append, List.length_replicate, xorL_len, dig_len]; omega)) (by first | exact rfl | assumption) (by ktr_room) (by ktr_units) ?_
  rintro r9 tl9 h9 tk9 F9 N9 o9 ⟨rfl, bi, tbi, rfl, ii⟩
  clear o9
  simp only [List.nil_append] at N9
  k_steps
  refine Stop.in ?_
  k_dflt (refine xor_comp 92 (by decide) (by k_asm) (by with_unfolding_all rfl) (by decide) (by rfl) (by decide) (by rfl) (by decide) ?_)
  k_steps
  refine XSrc.mk (by with_reducible assumption) (by rfl) (by k_asm) (by k_asm) (by first | omega | ((simp only [List.length_append, List.length_replicate, xorL_len, dig_len]); omega)) ?_
  intro D8 g8 k8 vs8 F8 N8 hI8
  k_steps
  refine Stop.in ?_
  k_dflt (refine KBa.make_K (by k_asm) (by k_asm) (by rfl) (News.isList (by k_asm) (by k_mem)) hI8 (xorL_in (by decide) (in_bytes (by with_reducible assumption))) (by simp only [List.length_append, List.length_replicate, xorL_len, dig_len]; omega) ?_)
  intro h8 t8 k8 F8 N8 i8
  have e92 := KBa.ints_make i8
  clear i8 hI8
  k_steps
  refine Stop.in ?_
  refine KBa.add_K (by with_reducible assumption) (by with_reducible assumption) (by simp only [List.length_append, List.length_replicate, xorL_len, dig_len]; omega) ?_
  intro _ _ kbaApp
  k_steps
  refine Stop.in ?_
  refine tl_use (by k_asm) (by k_asm) (by k_asm) (by k_asm) (by k_asm) (md5_tl _ _ _ _ (by with_reducible assumption) (by simp only [List.length_append, List.length_replicate, xorL_len, dig_len]; omega)) (by first | exact rfl | assumption) (by ktr_room) (by ktr_units) ?_
  rintro r9 tl9 h9 tk9 F9 N9 o9 ⟨rfl, bj, tbj, rfl, ij⟩
  clear o9
  simp only [List.nil_append] at N9
  k_steps
  exact hret _ [] _ _ (by k_asm) (drop_to (by k_asm) (fun p hp => .tail _ (.tail _ hp))) no_tl ⟨rfl, _, _, rfl, ij⟩
end
end Mine

-- CC
namespace Mine
open PyProof.Rows.LCg
section
variable {prog : Program} {w : World} {A : Around} {E : Value → Shared → Prop} {s : Shared} {h₀ : Heap} {L : Addr} {m : Str → Option Value} {env : Env}

/-- the scope of a block whose one variable is a cell -/
def cellScope (x n3 n4 n5 : Str) : Scope := { kind := .function, names := [(Str.ofString ".0", .local), (x, .cell), (n3, .globalImplicit), (n4, .globalImplicit), (n5, .free)], isGenerator := false, isCoroutine := false }
theorem newEnv_cell {x n3 n4 n5 : Str} {gl : Addr} {cl : List (Str × Addr)} {q : Str} {Q : Env → Shared → Prop}
    (h : Q { scope := cellScope x n3 n4 n5, locals := s.heap.objs.size, globals := gl, cells := (x, (s.heap.push { cls := .type "dict", data := .dict #[] }).objs.size) :: cl, qual := q, func := none, code := env.code, frame := env.frame, builtins := env.builtins }
      { s with heap := (s.heap.push { cls := .type "dict", data := .dict #[] }).push { cls := .type "cell", data := .cell none } }) :
    wpAny (model prog w) A (newFunctionEnv (cellScope x n3 n4 n5) gl cl [] q none .none (some env)) Q E s := by
  unfold newFunctionEnv
  refine wpAny_bind (wpAny_alloc ?_)
  simp only [cellScope, List.forIn_cons, List.forIn_nil]
  refine wpAny_bind (wpAny_bind (wpAny_pure ?_))
  refine wpAny_bind (wpAny_bind (wpAny_bind (wpAny_alloc (wpAny_pure ?_))))
  refine wpAny_pure ?_
  refine wpAny_bind (wpAny_pure ?_)
  refine wpAny_bind (wpAny_pure ?_)
  refine wpAny_bind (wpAny_pure ?_)
  refine wpAny_pure ?_
  exact wpAny_bind (wpAny_pure (wpAny_pure h))

/-- a range at hand; what each number's element gives; what stands behind the block -/
def CSrc (prog : Program) (w : World) (A : Around) (h₀ : Heap) (L : Addr) (m : Str → Option Value) (env : Env) (elt : Expr) (x n3 n4 n5 : Str) (cl : List (Str × Addr)) (Q : Value → Shared → Prop) (xv : Value) (s₁ : Shared) : Prop :=
  ∃ (r : Addr) (a b st : Int) (tt uu vv : Tok) (news : List (Addr × Obj)) (n : Nat) (ns : Nat → Int), xv = .ref r ∧ A.handled = none ∧ IsRange s₁.heap r a b st tt uu vv ∧ Builtin.Range.small a b st = true ∧ Builtin.Range.rangeSize a b st = (n : Int) ∧ Fr h₀ L s₁.heap m ∧ News h₀ L s₁.heap news ∧ n ≤ sizeLine ∧
    (∀ i I oI C oC c oc t D ys g tk (Q' E' : Value → Shared → Prop), i < n → oc.data = .cell (some (.int (a + (i : Int) * st) t)) → Fr h₀ L g m → News h₀ L g ((I, oI) :: (C, oC) :: (c, oc) :: (D, lst ys) :: news) →
      (∀ p ∈ news, p.1 < I) → (I < D ∧ D < C ∧ C < c) →
      (∀ g' t' tk', Fr h₀ L g' m → News h₀ L g' ((I, oI) :: (C, oC) :: (c, oc) :: (D, lst ys) :: news) → Q' (.int (ns i) t') { s₁ with heap := g', toks := tk' }) →
      wpAny (model prog w) A (eval elt (compEnvC (cellScope x n3 n4 n5) ((x, c) :: cl) C env)) Q' E' { s₁ with heap := g, toks := tk }) ∧
    ∀ D g tk vs, Fr h₀ L g m → News h₀ L g ((D, lst vs) :: news) → (∀ p ∈ news, p.1 < D) → IntsAre vs ((List.range n).map ns) → Q (.ref D) { s₁ with heap := g, toks := tk }
theorem comp_cell {elt iter : Expr} {x n3 n4 n5 : Str} {px : Pos} {cl : List (Str × Addr)} {pos : Pos} {Q : Value → Shared → Prop} (_F₀ : Fr h₀ L s.heap m)
    (hclos : closureFor (cellScope x n3 n4 n5) env = pure cl) (hx : (x == Str.ofString ".0") = false)
    (h : wpAny (model prog w) A (eval iter env) (CSrc prog w A h₀ L m env elt x n3 n4 n5 cl Q) E s)
    (hs : ∀ x, foldedSetIterable iter env x = pure x := by intro _; rfl) :
    wpAny (model prog w) A (eval (.ListComp elt [⟨.Name x px, iter, [], 0⟩] (cellScope x n3 n4 n5) pos) env) Q E s := by
  rw [eval_ListComp]
  refine wpAny_comprehension_free (use := none) rfl hs hclos rfl (by
    intro y hy hl
    simp only [cellScope, List.mem_cons, List.not_mem_nil, or_false] at hy
    rcases hy with rfl | rfl | rfl | rfl | rfl
    · rfl
    · cases hl
    · cases hl
    · cases hl
    · cases hl) (wpAny_mono h (fun xv s₁ h₁ => ?_) fun _ _ e => e)
  obtain ⟨r, a, b, st, tt, uu, vv, news, n, ns, rfl, hh, hr, hsm, hrs, F, N, hsz, helt, fin⟩ := h₁
  refine wpAny_pyIter_range hr hsm ?_
  rw [hrs]
  have F₁ : Fr h₀ L (s₁.heap.push { cls := .type "range_iterator", data := .fields #[rawInt a, rawInt (n : Int), rawInt st] }) m := F.push _
  have N₁ : News h₀ L (s₁.heap.push { cls := .type "range_iterator", data := .fields #[rawInt a, rawInt (n : Int), rawInt st] }) news := N.grown fun b o e => Heap.get?_push_of_some _ e
  have it₁ : IsRangeIter (s₁.heap.push { cls := .type "range_iterator", data := .fields #[rawInt a, rawInt (n : Int), rawInt st] }) s₁.heap.objs.size (a + ((0 : Nat) : Int) * st) ((n : Int) - ((0 : Nat) : Int)) st := by
    rw [show a + ((0 : Nat) : Int) * st = a by simp, show ((n : Int) - ((0 : Nat) : Int)) = (n : Int) by omega]
    exact Heap.get?_push_size _ rfl
  have sz₁ : (s₁.heap.push { cls := .type "range_iterator", data := .fields #[rawInt a, rawInt (n : Int), rawInt st] }).objs.size = s₁.heap.objs.size + 1 := Heap.size_push _ _
  have nI : ∀ p ∈ news, p.1 < s₁.heap.objs.size := fun p hp => Heap.lt_size (N p hp).1
  have LI : L < s₁.heap.objs.size := F.ns.lt
  have I₀ := next_is_new F
  generalize hIa : s₁.heap.objs.size = I at it₁ sz₁ nI LI I₀
  generalize hG : s₁.heap.push { cls := .type "range_iterator", data := .fields #[rawInt a, rawInt (n : Int), rawInt st] } = G at F₁ N₁ it₁ sz₁
  refine wpAny_newObj_type (newEnv_cell ?_)
  dsimp only
  have new₀ : ∀ c, G.objs.size ≤ c → h₀.get? c = none := fun c hc => by
    cases e : h₀.get? c with
    | none => rfl
    | some o => exact absurd (Heap.lt_size (F₁.keep c o e)) (Nat.not_lt.mpr hc)
  generalize hH1 : G.push { cls := .type "list", dict := none, data := .seq ([] : List Value).toArray } = H1
  have s1 : H1.objs.size = G.objs.size + 1 := by rw [← hH1]; exact Heap.size_push _ _
  generalize hH2 : H1.push { cls := .type "dict", data := .dict #[] } = H2
  have s2 : H2.objs.size = H1.objs.size + 1 := by rw [← hH2]; exact Heap.size_push _ _
  generalize hH3 : H2.push { cls := .type "cell", data := .cell none } = H3
  have up : ∀ c o, G.get? c = some o → H3.get? c = some o := fun c o e => hH3 ▸ Heap.get?_push_of_some _ (hH2 ▸ Heap.get?_push_of_some _ (hH1 ▸ Heap.get?_push_of_some _ e))
  have gD : H3.get? G.objs.size = some (lst []) := hH3 ▸ Heap.get?_push_of_some _ (hH2 ▸ Heap.get?_push_of_some _ (hH1 ▸ Heap.get?_push_size _ rfl))
  have gC : H3.get? H1.objs.size = some { cls := .type "dict", data := .dict #[] } := hH3 ▸ Heap.get?_push_of_some _ (hH2 ▸ Heap.get?_push_size _ rfl)
  have gc : H3.get? H2.objs.size = some { cls := .type "cell", data := .cell none } := hH3 ▸ Heap.get?_push_size _ rfl
  have D₀ := new₀ G.objs.size (Nat.le_refl _)
  have C₀ := new₀ H1.objs.size (by rw [s1]; exact Nat.le_succ _)
  have c₀ := new₀ H2.objs.size (by rw [s2, s1]; exact Nat.le_succ_of_le (Nat.le_succ _))
  have LG : L < G.objs.size := F₁.ns.lt
  generalize hDa : G.objs.size = D at s1 gD D₀ sz₁ LG
  generalize hCa : H1.objs.size = C at s1 s2 gC C₀
  generalize hca : H2.objs.size = c at s2 gc c₀
  have ID : I < D := by rw [sz₁]; exact Nat.lt_succ_self _
  have DC : D < C := by rw [s1]; exact Nat.lt_succ_self _
  have Cc : C < c := by rw [s2]; exact Nat.lt_succ_self _
  have lt4 : ∀ p ∈ news, p.1 ≠ I ∧ p.1 ≠ D ∧ p.1 ≠ C ∧ p.1 ≠ c := fun p hp => by
    have := nI p hp
    have i1 := Nat.lt_trans this ID
    have i2 := Nat.lt_trans i1 DC
    exact ⟨Nat.ne_of_lt this, Nat.ne_of_lt i1, Nat.ne_of_lt i2, Nat.ne_of_lt (Nat.lt_trans i2 Cc)⟩
  have LD : L ≠ D := Nat.ne_of_lt LG
  have LC : L ≠ C := Nat.ne_of_lt (Nat.lt_trans LG DC)
  have Lc : L ≠ c := Nat.ne_of_lt (Nat.lt_trans (Nat.lt_trans LG DC) Cc)
  have kx : (compEnvC (cellScope x n3 n4 n5) ((x, c) :: cl) C env).kindOf x = some .cell := by
    simp [Env.kindOf, compEnvC, relabel, cellScope, List.lookup, hx]
  have W := Walks.range (prog := prog) (w := w) (A := A) hh I a st n
  have sub1 : ∀ {h h' : Heap} {d : Addr}, Fr h₀ L h m → News h₀ L h news → (∀ b o, b ∉ [d] → h.get? b = some o → h'.get? b = some o) → L ≠ d → h₀.get? d = none → (∀ p ∈ news, p.1 ≠ d) → Fr h₀ L h' m ∧ News h₀ L h' news := fun F N k a b c => ⟨fr_but F k a b, news_but N k c⟩
  have one : ∀ {h h' : Heap} {d : Addr}, Heap.SameBut d h h' → ∀ b o, b ∉ [d] → h.get? b = some o → h'.get? b = some o := fun hs b o hb e => hs.extBut b o (by simpa using hb) e
  have loop : ∀ s₃ : Shared, s₃ = { s₁ with heap := H3 } →
      codeAny (model prog w) A (.compLoop (.ListComp elt [⟨.Name x px, iter, [], 0⟩] (cellScope x n3 n4 n5) pos) 0 (.ref I) (.ref D) (compEnvC (cellScope x n3 n4 n5) ((x, c) :: cl) C env)) (compPost (model prog w) A E none Q (.ref D) C) s₃ := by
    rintro s₃ rfl
    refine codeAny_compLoop_list (fun q s' => ∃ h' tk i vs oc v, s' = { s₁ with heap := h', toks := tk } ∧ i ≤ n ∧ q = n + 1 - i ∧ IsRangeIter h' I (a + (i : Nat) * st) ((n : Int) - (i : Nat)) st ∧ Fr h₀ L h' m ∧ News h₀ L h' news ∧ h'.get? D = some (lst vs) ∧ h'.get? C = some { cls := .type "dict", data := .dict #[] } ∧ h'.get? c = some oc ∧ oc.data = .cell v ∧ IntsAre vs ((List.range i).map ns)) ?_ (n + 1)
      ⟨H3, _, 0, [], _, none, rfl, Nat.zero_le _, rfl, up _ _ it₁, F₁.keeps up, N₁.grown up, gD, gC, gc, rfl, .nil⟩
    rintro q s' ⟨h', tk', i, vs, oc, v₀, rfl, hi, rfl, it', F', N', hD', hC', hc', hoc, hI'⟩
    by_cases hlt : i < n
    · refine W.item i _ _ _ hlt it' fun v h₂ tk₂ hv it₂ k₂ => ?_
      obtain ⟨t, rfl⟩ := hv
      obtain ⟨F₂, N₂⟩ := sub1 F' N' k₂ (Nat.ne_of_lt LI) I₀ (fun p hp => (lt4 p hp).1)
      have hD₂ := k₂ _ _ (by simpa using (Nat.ne_of_gt ID)) hD'
      have hC₂ := k₂ _ _ (by simpa using (Nat.ne_of_gt (Nat.lt_trans ID DC))) hC'
      have hc₂ := k₂ _ _ (by simpa using (Nat.ne_of_gt (Nat.lt_trans (Nat.lt_trans ID DC) Cc))) hc'
      refine wpAny_assign_Name (wpAny_storeName_cell (c := c) rfl kx (by simp [compEnvC, List.lookup]) ⟨oc, hc₂, hoc⟩ fun h₃ hv₃ hs₃ => ?_)
      obtain ⟨oc₃, hc₃, hd₃⟩ := hv₃
      obtain ⟨F₃, N₃⟩ := sub1 F₂ N₂ (one hs₃) Lc c₀ (fun p hp => (lt4 p hp).2.2.2)
      have it₃ := hs₃.extBut _ _ (Nat.ne_of_lt (Nat.lt_trans (Nat.lt_trans ID DC) Cc)) it₂
      have hD₃ := hs₃.extBut _ _ (Nat.ne_of_lt (Nat.lt_trans DC Cc)) hD₂
      have hC₃ := hs₃.extBut _ _ (Nat.ne_of_lt Cc) hC₂
      refine helt i I { cls := .type "range_iterator", data := .fields #[rawInt (a + ((i + 1 : Nat) : Int) * st), rawInt ((n : Int) - ((i + 1 : Nat) : Int)), rawInt st] } C { cls := .type "dict", data := .dict #[] } c oc₃ t D vs h₃ _ _ _ hlt hd₃ F₃ (fun p hp => ?_) nI ⟨ID, DC, Cc⟩ fun g' t' tk' F₄ N₄ => ?_
      · rcases List.mem_cons.mp hp with rfl | hp
        · exact ⟨it₃, Nat.ne_of_gt LI, I₀⟩
        rcases List.mem_cons.mp hp with rfl | hp
        · exact ⟨hC₃, Ne.symm LC, C₀⟩
        rcases List.mem_cons.mp hp with rfl | hp
        · exact ⟨hc₃, Ne.symm Lc, c₀⟩
        rcases List.mem_cons.mp hp with rfl | hp
        · exact ⟨hD₃, Ne.symm LD, D₀⟩
        · exact N₃ p hp
      · have q1 := (N₄ _ (.head _)).1
        have q2 := (N₄ _ (.tail _ (.head _))).1
        have q3 := (N₄ _ (.tail _ (.tail _ (.head _)))).1
        have q4 := (N₄ _ (.tail _ (.tail _ (.tail _ (.head _))))).1
        have N₄' : News h₀ L g' news := fun p hp => N₄ p (.tail _ (.tail _ (.tail _ (.tail _ hp))))
        refine append_at (hsz := by show vs.toArray.size ≤ sizeLine; rw [List.size_toArray, hI'.length]; simp; omega) q4 fun h₅ hs₅ hD₅ => ?_
        obtain ⟨F₅, N₅⟩ := sub1 F₄ N₄' (one hs₅) LD D₀ (fun p hp => (lt4 p hp).2.1)
        refine ⟨n + 1 - (i + 1), by omega, h₅, tk', i + 1, vs ++ [.int (ns i) t'], oc₃, _, rfl, hlt, rfl, hs₅.extBut _ _ (Nat.ne_of_lt ID) q1, F₅, N₅, hD₅.trans (congrArg some (lst_snoc vs _)), hs₅.extBut _ _ (Nat.ne_of_gt DC) q2, hs₅.extBut _ _ (Nat.ne_of_gt (Nat.lt_trans DC Cc)) q3, hd₃, ?_⟩
        rw [List.range_succ, List.map_append]
        exact hI'.append (.cons _ _ .nil)
    · obtain rfl : i = n := Nat.le_antisymm hi (Nat.not_lt.mp hlt)
      refine W.done _ _ _ it' fun h₂ tk₂ k₂ => ?_
      obtain ⟨F₂, N₂⟩ := sub1 F' N' k₂ (Nat.ne_of_lt LI) I₀ (fun p hp => (lt4 p hp).1)
      have hD₂ := k₂ _ _ (by simpa using (Nat.ne_of_gt ID)) hD'
      have hC₂ := k₂ _ _ (by simpa using (Nat.ne_of_gt (Nat.lt_trans ID DC))) hC'
      refine ⟨fun _ => none, ⟨_, #[], 0, hC₂, rfl, fun _ h => by simp at h, fun _ => rfl⟩, fun h'' hs'' => ?_⟩
      obtain ⟨F₅, N₅⟩ := sub1 F₂ N₂ (one hs'') LC C₀ (fun p hp => (lt4 p hp).2.2.1)
      refine fin D h'' _ vs F₅ (fun p hp => ?_) (fun p hp => Nat.lt_trans (nI p hp) ID) hI'
      rcases List.mem_cons.mp hp with rfl | hp
      · exact ⟨hs''.extBut _ _ (Nat.ne_of_lt DC) hD₂, Ne.symm LD, D₀⟩
      · exact N₅ p hp
  exact codeAny_compStart_list (loop _ rfl) (wpAny_pyIter_rangeiter (up _ _ it₁) (loop _ rfl))
end
end Mine

-- SR
namespace Mine
open PyProof.Rows.LCg
section
variable {prog : Program} {w : World} {A : Around} {E : Value → Shared → Prop} {s : Shared} {h₀ : Heap} {L : Addr} {m : Str → Option Value} {env : Env}
theorem src_range {elt : Expr} {x : Str} {scope : Scope} {cl : List (Str × Addr)} {Q : Value → Shared → Prop} {r : Addr} {a b st : Int} {tt uu vv : Tok} {news : List (Addr × Obj)} (n : Nat) (ns : Nat → Int) (hr : IsRange s.heap r a b st tt uu vv) (hsm : Builtin.Range.small a b st = true) (hrs : Builtin.Range.rangeSize a b st = (n : Int)) (hh : A.handled = none) (F : Fr h₀ L s.heap m) (N : News h₀ L s.heap news) (hsz : n ≤ sizeLine)
    (helt : ∀ i t C m₂ g tk (Q' E' : Value → Shared → Prop), i < n → g.Ns C m₂ → m₂ x = some (.int (a + (i : Int) * st) t) → Fr h₀ L g m → News h₀ L g news →
      (∀ t' tk', Q' (.int (ns i) t') { s with heap := g, toks := tk' }) → wpAny (model prog w) A (eval elt (compEnvC scope cl C env)) Q' E' { s with heap := g, toks := tk })
    (fin : ∀ D g tk vs, Fr h₀ L g m → News h₀ L g ((D, lst vs) :: news) → IntsAre vs ((List.range n).map ns) → Q (.ref D) { s with heap := g, toks := tk }) :
    SrcW prog w A E h₀ L m env elt x scope cl Q (.ref r) s := by
  refine wpAny_pyIter_range hr hsm ?_
  rw [hrs]
  refine ⟨_, _, n, _, _, fun _ => True, news, rfl, Walks.range hh _ a st n, hsz, ?_, ?_, ?_, ?_, F.push _, fun p hp => ⟨Heap.get?_push_of_some _ (N p hp).1, (N p hp).2⟩, Nat.ne_of_lt F.ns.lt, next_is_new F, fun p hp => Nat.ne_of_lt (Heap.lt_size (N p hp).1), trivial, ?_⟩
  · intro i h ho
    exact ⟨_, ho⟩
  · intro i h h' o nw ho e1 e2 _ _ _
    have ho' : h.get? _ = some _ := ho
    show h'.get? _ = some _
    rw [e2, ← e1]; exact ho'
  · rw [show a + ((0 : Nat) : Int) * st = a by simp, show ((n : Int) - ((0 : Nat) : Int)) = (n : Int) by omega]
    exact Heap.get?_push_size _ rfl
  · intro c hc
    rw [List.mem_singleton.mp hc]
    show _ < (s.heap.push _).objs.size
    rw [Heap.size_push]; exact Nat.lt_succ_self _
  · refine pure_rest (n := n) ns trivial ?_ ?_ n 0 [] (by omega) .nil
    · rintro i v I oI C oC D m₂ ys g tk Q' E' hi ⟨u, rfl⟩ _ hx F' N' hns hq
      exact helt i u C m₂ g tk Q' E' hi hns hx F' (fun p hp => N' p (.tail _ (.tail _ (.tail _ hp)))) hq
    · intro ys hI D h tk F' N' o1
      exact fin D h tk ys F' N' hI
end
end Mine

-- W7
namespace Mine
local macro_rules | `(tactic| k_all) => `(tactic| first | exact all_ne (by assumption) | exact all_ne1 (by assumption))
theorem cell_of {h₀ h : Heap} {L c : Addr} {o : Obj} {v : Option Value} {r : List (Addr × Obj)} (N : News h₀ L h ((c, o) :: r)) (hd : o.data = .cell v) : h.IsCell c v := ⟨o, (N _ (.head _)).1, hd⟩
theorem sum_wd (ks : List Int) (i : Nat) : (List.map (fun k => ((bt ks (4 * i + k) * 256 ^ k : Nat) : Int)) (List.range 4)).sum = ((wd ks i : Nat) : Int) := by
  have e : List.range 4 = [0, 1, 2, 3] := rfl
  have f : wd ks i = bt ks (4 * i + 0) * 256 ^ 0 + (bt ks (4 * i + 1) * 256 ^ 1 + (bt ks (4 * i + 2) * 256 ^ 2 + (bt ks (4 * i + 3) * 256 ^ 3 + 0))) := by
    rw [wd, show (256 : Nat) ^ 0 = 1 from rfl, show (256 : Nat) ^ 1 = 256 from rfl, show (256 : Nat) ^ 2 = 65536 from rfl, show (256 : Nat) ^ 3 = 16777216 from rfl]
    simp only [Nat.add_zero]
    omega
  rw [e, f]
  rfl
local macro_rules | `(tactic| walk_at $k) => if ["eval ListComp", "call builtin:sum", "call builtin:len"].contains k.getString then `(tactic| refine Stop.out ?_) else Lean.Macro.throwUnsupported
local macro_rules | `(tactic| walk_at "eval Name") => `(tactic| ((with_reducible show wpAny _ _ (eval _ (compEnvC _ _ _ _)) _ _ _); first | refine ldVarK (by assumption) (by with_reducible assumption) ?_ | k_dflt (refine ldFreeK rfl (by with_reducible assumption) ?_)))
section
variable {w : World} {p : Program} {loose : List Str} {mean : ExcName → Option Value} {mg mb : Str → Option Value}

theorem law_words_tl (news : List (Addr × Obj)) (b : Array UInt8) (t : Tok) (ks : List Int) (hk : KBw.bInts b = ks) (hl : ks.length = 64) :
   Tl w p loose mean mg mb 88 news [.bytes b t] 2 (fun tl r => ∃ a us n, r = .ref a ∧ tl = [(a, listOf us.toArray n)] ∧ IntsAre us ((List.range 16).map fun i => (wd ks i : Int))) := by
  w_top off
  unfold Tl
  k_fill
  intro dp un gd cn cs a ccd cl outer A₀ base h₀ L m s Q E B F X N T hkf hd hu hret
  refine wpAny_call ?_
  k_dflt (refine' code_defC ?k1 ?k2 ?k3 ?k4 ?k5 ?kA ?kF ?kK ?k6 ?k7 ?k8 ?k9 ?kB ?kD ?_ ?c2 ?c3 ?c4; (case kA => exact rfl); (case kF => exact rfl); (case kK => first | exact rfl | assumption); (case k1 => k_asm); (case k2 => k_asm); (case k3 => k_asm); (case k4 => k_asm); (case k5 => k_asm); (case k6 => k_is); (case k7 => k_is); (case k8 => ktr_room); (case k9 => exact BindsTo.of_eq rfl); (case kB => exact rfl); (case kD => decide +kernel); (case c2 => exact rfl); (case c3 => exact rfl); (case c4 => exact rfl); k_whole; intro g' L' h' tk' cells' FG' F' N' Y' B' X' T' l1; (try k_lt l1); k_cells Y'; (try simp only [List.cons_append, List.nil_append] at N'); (try dsimp only); (try k_lift B'); (try k_fold))
  k_steps
  refine Stop.in ?_
  k_dflt (refine comp_cell (by k_asm) (by with_unfolding_all rfl) (by decide) ?_)
  k_steps
  refine Stop.in ?_
  refine KBw.len_K hk (by omega) ?_
  k_steps
  with_reducible rename Fr _ _ _ _ => lF
  with_reducible rename News _ _ _ _ => lN
  rename IsRange _ _ _ _ _ _ _ _ => rgX
  rw [hl] at rgX
  refine ⟨_, _, _, _, _, _, _, _, 16, fun i => (wd ks i : Int), rfl, rfl, rgX, by decide, by decide, lF, lN, by (rw [sizeLine_eq]; decide), ?helt, ?fin⟩
  case helt =>
    intro i I oI C oC c oc tv D ys g tk Q' E' hi hoc F8 N8 l8 o8 hq
    have hat : g.IsCell c (some (.int (0 + (i : Int) * 4) tv)) := ⟨oc, (N8 (c, oc) (.tail _ (.tail _ (.head _)))).1, hoc⟩
    have hoct := cell_of (fun p hp => N8 p (.tail _ (.tail _ (.tail _ (.tail _ hp))))) (by assumption)
    k_steps
    refine Stop.in ?_
    k_dflt (refine comp_walk F8 (by with_unfolding_all rfl) (by decide) (by rfl) (by decide) (by rfl) ?_)
    k_steps
    rename IsRange _ _ _ _ _ _ _ _ => rgX
    refine src_range 4 (fun k => ((bt ks (4 * i + k) * 256 ^ k : Nat) : Int)) rgX (by decide) (by decide) (by rfl) (by k_asm) (by k_asm) (by rw [sizeLine_eq]; decide) ?helt2 ?fin2
    case helt2 =>
      intro k tk2 C2 m2 g2 tk3 Q2 E2 hk4 hns2 hm2 F9 N9 hq2
      k_steps
      have e9 : ks.getD (0 + (i : Int) * 4 + (0 + (k : Int) * 1)).toNat 0 * 256 ^ (0 + (k : Int) * 1).toNat = ((bt ks (4 * i + k) * 256 ^ k : Nat) : Int) := by
        rw [show (0 + (i : Int) * 4 + (0 + (k : Int) * 1)).toNat = 4 * i + k by omega, show (0 + (k : Int) * 1).toNat = k by omega]
        have hj : 4 * i + k < ks.length := by omega
        rw [show ks.getD (4 * i + k) 0 = ks[4 * i + k] by simp [List.getD, hj], bt_eq hk hj]
        push_cast
        rfl
      exact q_int e9 (hq2 _ _)
    case fin2 =>
      intro D2 g2 tk2 vs2 F9 N9 hI2
      k_steps
      refine Stop.in ?_
      refine sumK (by rfl) F9 N9 (News.isList N9 (.head _)) hI2 ?_
      intro h6 tk6 t6 F6 N6
      rw [sum_wd]
      k_steps
      exact hq _ _ _ F6 (fun p hp => N6 p (.tail _ hp))
  case fin =>
    intro D g tk vs F8 N8 l8 hI
    k_steps
    exact hret _ [_] _ _ (by k_asm) (drop_to (by k_asm) (by
        intro p hp
        rcases List.mem_cons.mp hp with rfl | hp
        · exact .head _
        · exact .tail _ (.tail _ hp))) (ord_one (fun p hp => l8 p (.tail _ hp))) ⟨_, _, _, rfl, rfl, hI⟩
end
end Mine

-- W8
namespace Mine
local macro_rules | `(tactic| k_all) => `(tactic| exact all_ne (by assumption))
theorem news_list4 {h₀ h : Heap} {L a : Addr} {A B C D : Int} {u0 u1 u2 u3 : Tok} {n : Nat} {r : List (Addr × Obj)} (_ : News h₀ L h ((a, listOf [.int A u0, .int B u1, .int C u2, .int D u3].toArray n) :: r)) : ∃ a' v0 v1 v2 v3 n', a' = a ∧ v0 = u0 ∧ v1 = u1 ∧ v2 = u2 ∧ v3 = u3 ∧ n' = n := ⟨a, u0, u1, u2, u3, n, rfl, rfl, rfl, rfl, rfl, rfl⟩
theorem turn_eq (x1 x2 x3 x4 mx sn wv q : Nat) (hq : q < 32) : ((([(x1 : Int), (x2 : Int), (x3 : Int), (x4 : Int)] : List Int).getD (Int.toNat 1) 0 + ((((([(x1 : Int), (x2 : Int), (x3 : Int), (x4 : Int)] : List Int).getD (Int.toNat 0) 0 + (mx : Int) + (sn : Int) + (wv : Int)).fmod (2 ^ Int.toNat 32)) * 2 ^ ((q : Int)).toNat).fmod (2 ^ Int.toNat 32) + ((([(x1 : Int), (x2 : Int), (x3 : Int), (x4 : Int)] : List Int).getD (Int.toNat 0) 0 + (mx : Int) + (sn : Int) + (wv : Int)).fmod (2 ^ Int.toNat 32)).fdiv (2 ^ (32 - (q : Int)).toNat)))).fmod (2 ^ Int.toNat 32) = (((x2 + rotl ((x1 + mx + sn + wv) % 4294967296) q) % 4294967296 : Nat) : Int) := by
  show (((x2 : Int) + (((((x1 : Int) + (mx : Int) + (sn : Int) + (wv : Int)).fmod (2 ^ Int.toNat 32)) * 2 ^ ((q : Int)).toNat).fmod (2 ^ Int.toNat 32) + (((x1 : Int) + (mx : Int) + (sn : Int) + (wv : Int)).fmod (2 ^ Int.toNat 32)).fdiv (2 ^ (32 - (q : Int)).toNat)))).fmod (2 ^ Int.toNat 32) = _
  rw [show (2 ^ Int.toNat 32 : Int) = 4294967296 by decide]
  have e1 : ((x1 : Int) + (mx : Int) + (sn : Int) + (wv : Int)).fmod 4294967296 = (((x1 + mx + sn + wv) % 4294967296 : Nat) : Int) := by
    rw [Int.fmod_eq_emod_of_nonneg _ (by decide)]; omega
  rw [e1]
  generalize (x1 + mx + sn + wv) % 4294967296 = T
  have e2 : ((T : Int) * 2 ^ ((q : Int)).toNat) = ((T * 2 ^ q : Nat) : Int) := by
    rw [Int.toNat_natCast]; push_cast; rfl
  have e3 : ((T : Int).fdiv (2 ^ (32 - (q : Int)).toNat)) = ((T / 2 ^ (32 - q) : Nat) : Int) := by
    rw [show (32 - (q : Int)).toNat = 32 - q by omega, Int.fdiv_eq_ediv_of_nonneg _ (Int.le_of_lt (Int.pow_pos (by decide)))]
    push_cast
    rfl
  rw [e2, e3, rotl, Int.fmod_eq_emod_of_nonneg _ (by decide), Int.fmod_eq_emod_of_nonneg _ (by decide)]
  generalize T * 2 ^ q = U
  generalize T / 2 ^ (32 - q) = V
  omega
theorem mod2 (x y : Nat) : ((x : Int) + y).fmod (2 ^ Int.toNat 32) = (((x + y) % 4294967296 : Nat) : Int) := by
  rw [show (2 ^ Int.toNat 32 : Int) = 4294967296 by decide, Int.fmod_eq_emod_of_nonneg _ (by decide)]; omega
structure LSt where
  row : Addr
  n : Nat
  x : S4
  t0 : Tok
  t1 : Tok
  t2 : Tok
  t3 : Tok
abbrev LSt.vs (c : LSt) : List Value := [.int (c.x.1 : Nat) c.t0, .int (c.x.2.1 : Nat) c.t1, .int (c.x.2.2.1 : Nat) c.t2, .int (c.x.2.2.2 : Nat) c.t3]
theorem sub_turn' {w : World} {A : Around} {E : Value → Shared → Prop} {s : Shared} {g : Heap} {L : Addr} {m : Str → Option Value} {value slice : Expr} {i : Nat} {k : Int} {u : Tok} {Q : Value → Shared → Prop} (F : Fr g L s.heap m) (X : (hd.heap_39 w.params).In g) (hk : k = ((i % 4 : Nat) : Int)) (hi : i < 64) (h : ∀ (t : Tok) (q : Nat), turnN i = q → 0 < q → q < 32 → Q (.int (q : Int) t) s)
    (hs : subscripted slice false (.ref (16 + i / 16)) (.int k u) = operate [.ref (16 + i / 16), .int k u] (getItem (.ref (16 + i / 16)) (.int k u)) := by with_unfolding_all rfl) :
    wpAny (model PySem.Challenge.rw_pc0356_01.row.prog w) A (subscriptTail value slice (.ref (16 + i / 16)) (.int k u)) Q E s :=
  sub_turn F X hk hi (fun t => h t _ rfl (turn_ok i hi).1 (turn_ok i hi).2) hs
theorem turn_fin {h₀ h : Heap} {L a : Addr} {A B C D : Int} {u0 u1 u2 u3 : Tok} {n : Nat} {r : List (Addr × Obj)} (x : S4) (N : News h₀ L h ((a, listOf [.int A u0, .int B u1, .int C u2, .int D u3].toArray n) :: r)) (hA : A = (x.1 : Nat)) (hB : B = (x.2.1 : Nat)) (hC : C = (x.2.2.1 : Nat)) (hD : D = (x.2.2.2 : Nat)) :
    ∃ c : LSt, c.row = a ∧ c.x = x ∧ News h₀ L h ((a, listOf c.vs.toArray c.n) :: r) := by
  subst hA hB hC hD
  exact ⟨⟨a, n, x, u0, u1, u2, u3⟩, rfl, rfl, N⟩
theorem place_all : ∀ i : Nat, i < 64 → (([(i : Int), 5 * (i : Int) + 1, 3 * (i : Int) + 5, 7 * (i : Int)] : List Int).getD (((i : Int)).fdiv 16).toNat 0).fmod 16 = ((plc i : Nat) : Int) := by decide +kernel
theorem place_eq {i : Nat} (h : i < 64) : (([(i : Int), 5 * (i : Int) + 1, 3 * (i : Int) + 5, 7 * (i : Int)] : List Int).getD (((i : Int)).fdiv 16).toNat 0).fmod 16 = ((plc i : Nat) : Int) := place_all i h
theorem sub_list' {w : World} {A : Around} {E : Value → Shared → Prop} {s : Shared} {g : Heap} {L : Addr} {value slice : Expr} {news : List (Addr × Obj)} {a : Addr} {us : List Value} {n : Nat} {ns : List Int} {k : Int} {j : Nat} {x : Int} {u : Tok} {Q : Value → Shared → Prop} (N : News g L s.heap news) (hm : (a, listOf us.toArray n) ∈ news) (hI : IntsAre us ns) (hk : k = (j : Int)) (hj : ns[j]? = some x) (hz : j < 2 ^ 60) (h : ∀ t, Q (.int x t) s)
    (hs : subscripted slice false (.ref a) (.int k u) = operate [.ref a, .int k u] (getItem (.ref a) (.int k u)) := by with_unfolding_all rfl) :
    wpAny (model PySem.Challenge.rw_pc0356_01.row.prog w) A (subscriptTail value slice (.ref a) (.int k u)) Q E s := by
  subst hk
  exact sub_list N hm hI hj hz h hs
theorem pow_away {prog : Program} {w : World} {A : Around} {E Q : Value → Shared → Prop} {s : Shared} {q : Nat} {t u : Tok} (hq : q < 32) (h : Q (.int (2 ^ (32 - (q : Int)).toNat) s.toks) { s with toks := s.toks + 1 }) : wpAny (model prog w) A (binaryOp .Pow (.int 2 t) (.int (32 - (q : Int)) u)) Q E s := pow_int_small (by omega) (by omega) (by decide) h
theorem div_away {prog : Program} {w : World} {A : Around} {E Q : Value → Shared → Prop} {s : Shared} {q : Nat} {x : Int} {t u : Tok} (hq : q < 32) (h : Q (.int (x.fdiv (2 ^ (32 - (q : Int)).toNat)) s.toks) { s with toks := s.toks + 1 }) : wpAny (model prog w) A (binaryOp .FloorDiv (.int x t) (.int (2 ^ (32 - (q : Int)).toNat) u)) Q E s := floordiv_int (Int.ne_of_gt (Int.pow_pos (by decide))) h (Or.inl (PyProof.noPylong_of_log2 (kbt_py (by omega))))
local macro_rules | `(tactic| walk_at "binaryOp Pow int int") => `(tactic| (k_here; with_reducible refine pow_away (by assumption) ?_))
local macro_rules | `(tactic| walk_at "binaryOp FloorDiv int int") => `(tactic| (k_here; with_reducible refine div_away (by assumption) ?_))
theorem getD_at {ns : List Int} {j : Nat} {k : Int} (hk : k = (j : Int)) (h : j < ns.length) : ns[j]? = some (ns.getD k.toNat 0) := by
  subst hk
  rw [Int.toNat_natCast]
  simp [h]
local macro_rules | `(tactic| walk_at $k) => if ["pyIter ref", "call ref", "subscriptTail", "eval ListComp", "call type:zip", "call type:list"].contains k.getString then `(tactic| refine Stop.out ?_) else Lean.Macro.throwUnsupported
local macro_rules | `(tactic| walk_at "eval Name") => `(tactic| refine ldVarK (by assumption) (by assumption) ?_)
theorem gen_toks {M : Model} {α : Type} {A : Around} {t : Sem α} {Q : α → Shared → Prop} {E : Value → Shared → Prop} {s : Shared} {h : Heap} {tk : Nat} (H : ∀ tk', wpAny M A t Q E { s with heap := h, toks := tk' }) : wpAny M A t Q E { s with heap := h, toks := tk + 1 } := H _
local macro_rules | `(tactic| walk_at "execs cons") => `(tactic| (k_here; (refine gen_toks ?_); intro tk))
section
variable {w : World} {p : Program} {loose : List Str} {mean : ExcName → Option Value} {mg mb : Str → Option Value}

theorem law_block_tl (news : List (Addr × Obj)) (st wa : Addr) (sa sb sc sd : Nat) (ta tb tc td : Tok) (n n2 : Nat) (us : List Value) (ks : List Int) (hst : (st, listOf [.int sa ta, .int sb tb, .int sc tc, .int sd td].toArray n) ∈ news) (hwa : (wa, listOf us.toArray n2) ∈ news) (hus : IntsAre us ((List.range 16).map fun i => (wd ks i : Int))) (hx : Ok4 (sa, sb, sc, sd)) :
   Tl w p loose mean mg mb 100 news [.ref st, .ref wa] 2 (fun tl r => ∃ a t0 t1 t2 t3 n', r = .ref a ∧ tl = [(a, listOf [.int ((blockN (wd ks) (sa, sb, sc, sd)).1 : Nat) t0, .int ((blockN (wd ks) (sa, sb, sc, sd)).2.1 : Nat) t1, .int ((blockN (wd ks) (sa, sb, sc, sd)).2.2.1 : Nat) t2, .int ((blockN (wd ks) (sa, sb, sc, sd)).2.2.2 : Nat) t3].toArray n')]) := by
  w_top off
  unfold Tl
  k_fill
  intro dp un gd cn cs a ccd cl outer A₀ base h₀ L m s Q E B F X N T hkf hd hu hret
  refine wpAny_call ?_
  k_dflt ktr_enter
  k_steps
  refine Stop.in ?_
  refine kup_listOf (by k_asm) (by k_asm) hst rfl ?_ (by rw [sizeLine_eq]; exact (by decide : (4 : Nat) ≤ 16777216))
  intro D0 c0 h0 F0 N0 l0
  k_steps
  refine Stop.in ?_
  with_reducible rename Fr _ _ _ _ => lF
  with_reducible rename News _ _ _ _ => lN
  rename IsRange _ _ _ _ _ _ _ _ => rgX
  refine range_st (σ := LSt) (fun c => [(Str.ofString "words", .ref wa), (Str.ofString "state", .ref st), (Str.ofString "row", .ref c.row)]) (fun c => (c.row, listOf c.vs.toArray c.n) :: news) (fun i c => c.x = rounds (wd ks) i (sa, sb, sc, sd) ∧ ∀ p ∈ news, p.1 < c.row) ⟨D0, c0, (sa, sb, sc, sd), ta, tb, tc, td⟩ 64 (by rfl) rgX (by decide) (by decide) lF lN ?_ ?_ ?_ ?_
  · exact ⟨rfl, l0⟩
  · k_dflt (simp only [List.forall_mem_cons]; refine ⟨by with_unfolding_all rfl, by with_unfolding_all rfl, by with_unfolding_all rfl, fun _ h => nomatch h⟩)
  · clear lF lN rgX
    rintro I ⟨row, n9, ⟨x1, x2, x3, x4⟩, t0, t1, t2, t3⟩ i u v t' h tk hi ⟨hP, hrl⟩ hv off lF lN
    dsimp only at hP hrl off
    obtain rfl : v = (i : Int) := by omega
    have hok : Ok4 (x1, x2, x3, x4) := by rw [hP]; exact rounds_ok hx i
    obtain ⟨y1, y2, y3, y4⟩ := hok
    dsimp only at y1 y2 y3 y4
    dsimp only [LSt.vs] at lN
    k_steps
    refine Stop.in ?_
    refine sub_list' (by k_asm) (by k_mem) (.cons _ _ (.cons _ _ (.cons _ _ (.cons _ _ .nil)))) (fdiv16 _) (getD_at (fdiv16 _) (by show i / 16 < 4; omega)) (by omega) fun _ => ?_
    k_steps
    refine Stop.in ?_
    refine tl_use (by k_asm) (by k_asm) (by k_asm) (by k_asm) (by k_asm) (law_mixed_tl _ _ _ _ _ _ _ _ _ hi y2 y3 y4) (by first | exact rfl | assumption) (by ktr_room) (by ktr_units) ?_
    rintro r9 tl9 h9 tk9 F9 N9 o9 ⟨rfl, t9, rfl⟩
    simp only [List.nil_append] at N9
    k_steps
    refine Stop.in ?_
    refine sub_sine (by k_asm) (by k_asm) hi fun _ => ?_
    k_steps
    refine Stop.in ?_
    refine sub_list' (by k_asm) (by (repeat (first | with_reducible exact hwa | refine List.mem_cons_of_mem _ ?_))) hus (place_eq hi) (wd_at _ plc_lt) (Nat.lt_trans plc_lt (by decide)) fun _ => ?_
    k_steps
    refine Stop.in ?_
    refine sub_turns (by k_asm) (by k_asm) (fdiv16 _) hi ?_
    k_steps
    refine Stop.in ?_
    refine sub_turn' (by k_asm) (by k_asm) (fmod4 _) hi fun t5 q5 e5 q6 q7 => ?_
    k_steps
    with_reducible rename Fr _ _ _ _ => lF
    with_reducible rename News _ _ _ _ => lN
    have eq9 := (by assumption : turnN i = _)
    obtain ⟨⟨row9, n9', x9, v0, v1, v2, v3⟩, e1, e2, lN9⟩ := turn_fin (x4, (x2 + rotl ((x1 + mixN i x2 x3 x4 + sineN i + wd ks (plc i)) % 4294967296) (turnN i)) % 4294967296, x2, x3) lN rfl (by rw [eq9]; exact turn_eq _ _ _ _ _ _ _ _ (by assumption)) rfl rfl
    dsimp only at e1 e2
    subst e1
    have lt9 := (by assumption : _ < row9 ∧ _ < row9 ∧ _ < row9 ∧ AllLt row9 news)
    refine TurnEnd.next ⟨row9, n9', x9, v0, v1, v2, v3⟩ lF lN9 ?hps ?sub ?off ⟨?fin1, ktn_ltOf lt9.2.2.2⟩
    case hps =>
      k_dflt (simp only [List.forall_mem_cons]; refine ⟨by with_unfolding_all rfl, by with_unfolding_all rfl, by with_unfolding_all rfl, fun _ h => nomatch h⟩)
    case sub =>
      intro p hp
      rcases List.mem_cons.mp hp with rfl | hp
      · exact .tail _ (.tail _ (.head _))
      · rcases List.mem_cons.mp hp with rfl | hp
        · exact .head _
        · exact .tail _ (.tail _ (.tail _ (.tail _ hp)))
    case off =>
      intro p hp
      rcases List.mem_cons.mp hp with rfl | hp
      · exact Nat.ne_of_gt lt9.2.1
      · exact off p (.tail _ hp)
    case fin1 =>
      show x9 = stepN (wd ks) i (rounds (wd ks) i (sa, sb, sc, sd))
      rw [e2]
      rw [← show (x1, x2, x3, x4) = rounds (wd ks) i (sa, sb, sc, sd) from hP]
      simp only [stepN]
  · clear lF lN rgX
    rintro ⟨row, n9, ⟨y1, y2, y3, y4⟩, t0, t1, t2, t3⟩ u h tk ⟨hP, hrl⟩ lF lN
    have hP' : rounds (wd ks) 64 (sa, sb, sc, sd) = (y1, y2, y3, y4) := hP.symm
    dsimp only at hrl
    dsimp only [LSt.vs] at lN
    k_steps
    refine Stop.in ?_
    k_dflt (refine zip_comp (by k_asm) (by with_unfolding_all rfl) (by decide) (by rfl) (by decide) (by rfl) (by rfl) (by decide) ?_)
    k_steps
    refine Stop.in ?_
    refine z_src (t := false) (n := 4) (fun i => ((q4 (blockN (wd ks) (sa, sb, sc, sd)) i : Nat) : Int)) (by rfl) (by k_asm) (by k_asm) (News.isList (by k_asm) (by (repeat (first | with_reducible exact hst | refine List.mem_cons_of_mem _ ?_)))) (News.isList (by k_asm) (by k_mem)) (by rfl) (by rfl) (by rw [sizeLine_eq]; decide) ?helt ?fin
    case helt =>
      intro i C m₂ va vb h tk Q' E' hi hns ea eb ma mb F8 N8 hq
      have hbl : ∀ j, q4 (blockN (wd ks) (sa, sb, sc, sd)) j = (q4 (sa, sb, sc, sd) j + q4 (y1, y2, y3, y4) j) % 4294967296 := by
        intro j
        unfold blockN
        rw [hP']
        rcases j with _ | _ | _ | j <;> rfl
      rw [hbl i] at hq
      rw [← mod2] at hq
      obtain ⟨ua, rfl⟩ : ∃ ua, va = .int ((q4 (sa, sb, sc, sd) i : Nat) : Int) ua := four_at hi ea
      obtain ⟨ub, rfl⟩ : ∃ ub, vb = .int ((q4 (y1, y2, y3, y4) i : Nat) : Int) ub := four_at hi eb
      k_steps
      exact hq _ _
    case fin =>
      intro D h tk vs F8 N8 l8 hI
      obtain ⟨u0, u1, u2, u3, rfl⟩ := ints_q4 hI
      k_steps
      exact hret _ [_] _ _ (by k_asm) (drop_to (by k_asm) (by
        intro p hp
        rcases List.mem_cons.mp hp with rfl | hp
        · exact .head _
        · exact .tail _ (.tail _ hp))) (ord_one (fun p hp => l8 p (.tail _ hp))) ⟨_, _, _, _, _, _, rfl, rfl⟩
end
end Mine

-- CL
namespace Mine
open PyProof.Rows.LCg
section
variable {prog : Program} {w : World} {A : Around} {E : Value → Shared → Prop} {s : Shared} {h₀ : Heap} {L : Addr} {m : Str → Option Value} {env : Env}

/-- the scope of a block whose one variable is a cell -/
def cellScope4 (x n3 n4 : Str) : Scope := { kind := .function, names := [(Str.ofString ".0", .local), (x, .cell), (n3, .globalImplicit), (n4, .globalImplicit)], isGenerator := false, isCoroutine := false }
theorem newEnv_cell4 {x n3 n4 : Str} {gl : Addr} {cl : List (Str × Addr)} {q : Str} {Q : Env → Shared → Prop}
    (h : Q { scope := cellScope4 x n3 n4, locals := s.heap.objs.size, globals := gl, cells := (x, (s.heap.push { cls := .type "dict", data := .dict #[] }).objs.size) :: cl, qual := q, func := none, code := env.code, frame := env.frame, builtins := env.builtins }
      { s with heap := (s.heap.push { cls := .type "dict", data := .dict #[] }).push { cls := .type "cell", data := .cell none } }) :
    wpAny (model prog w) A (newFunctionEnv (cellScope4 x n3 n4) gl cl [] q none .none (some env)) Q E s := by
  unfold newFunctionEnv
  refine wpAny_bind (wpAny_alloc ?_)
  simp only [cellScope4, List.forIn_cons, List.forIn_nil]
  refine wpAny_bind (wpAny_bind (wpAny_pure ?_))
  refine wpAny_bind (wpAny_bind (wpAny_bind (wpAny_alloc (wpAny_pure ?_))))
  refine wpAny_pure ?_
  refine wpAny_bind (wpAny_pure ?_)
  refine wpAny_bind (wpAny_pure ?_)
  refine wpAny_pure ?_
  exact wpAny_bind (wpAny_pure (wpAny_pure h))

/-- a list at hand; what each item's element gives; what stands behind the block -/
def LSrc (prog : Program) (w : World) (A : Around) (h₀ : Heap) (L : Addr) (m : Str → Option Value) (env : Env) (elt : Expr) (x n3 n4 : Str) (cl : List (Str × Addr)) (Q : Value → Shared → Prop) (xv : Value) (s₁ : Shared) : Prop :=
  ∃ (l : Addr) (its : Array Value) (news : List (Addr × Obj)) (R : Nat → Value → Prop), xv = .ref l ∧ A.handled = none ∧ (∀ h, Fr h₀ L h m → News h₀ L h news → h.IsList l its) ∧ Fr h₀ L s₁.heap m ∧ News h₀ L s₁.heap news ∧ its.size ≤ sizeLine ∧
    (∀ i v I oI C oC c oc D ys g tk (Q' E' : Value → Shared → Prop), its[i]? = some v → oc.data = .cell (some v) → Fr h₀ L g m → News h₀ L g ((I, oI) :: (C, oC) :: (c, oc) :: (D, lst ys) :: news) →
      (∀ p ∈ news, p.1 < I) → (I < D ∧ D < C ∧ C < c) →
      (∀ g' v' tk', R i v' → Fr h₀ L g' m → News h₀ L g' ((I, oI) :: (C, oC) :: (c, oc) :: (D, lst ys) :: news) → Q' v' { s₁ with heap := g', toks := tk' }) →
      wpAny (model prog w) A (eval elt (compEnvC (cellScope4 x n3 n4) ((x, c) :: cl) C env)) Q' E' { s₁ with heap := g, toks := tk }) ∧
    ∀ D g tk vs, Fr h₀ L g m → News h₀ L g ((D, lst vs) :: news) → (∀ p ∈ news, p.1 < D) → vs.length = its.size → (∀ j v, vs[j]? = some v → R j v) → Q (.ref D) { s₁ with heap := g, toks := tk }
theorem comp_cellL {elt iter : Expr} {x n3 n4 : Str} {px : Pos} {cl : List (Str × Addr)} {pos : Pos} {Q : Value → Shared → Prop} (_F₀ : Fr h₀ L s.heap m)
    (hclos : closureFor (cellScope4 x n3 n4) env = pure cl) (hx : (x == Str.ofString ".0") = false)
    (h : wpAny (model prog w) A (eval iter env) (LSrc prog w A h₀ L m env elt x n3 n4 cl Q) E s)
    (hs : ∀ x, foldedSetIterable iter env x = pure x := by intro _; rfl) :
    wpAny (model prog w) A (eval (.ListComp elt [⟨.Name x px, iter, [], 0⟩] (cellScope4 x n3 n4) pos) env) Q E s := by
  rw [eval_ListComp]
  refine wpAny_comprehension_free (use := none) rfl hs hclos rfl (by
    intro y hy hl
    simp only [cellScope4, List.mem_cons, List.not_mem_nil, or_false] at hy
    rcases hy with rfl | rfl | rfl | rfl
    · rfl
    · cases hl
    · cases hl
    · cases hl) (wpAny_mono h (fun xv s₁ h₁ => ?_) fun _ _ e => e)
  obtain ⟨l, its, news, R, rfl, hh, hl, F, N, hsz, helt, fin⟩ := h₁
  have hl₁ := hl _ F N
  refine wpAny_pyIter_list hl₁ ?_
  have F₁ : Fr h₀ L (s₁.heap.push { cls := .type "list_iterator", data := .fields #[.ref l, .int 0 0] }) m := F.push _
  have N₁ : News h₀ L (s₁.heap.push { cls := .type "list_iterator", data := .fields #[.ref l, .int 0 0] }) news := N.grown fun b o e => Heap.get?_push_of_some _ e
  have it₁ : (s₁.heap.push { cls := .type "list_iterator", data := .fields #[.ref l, .int 0 0] }).IsListIter s₁.heap.objs.size l 0 := ⟨_, Heap.get?_push_size _ rfl, rfl, rfl⟩
  have sz₁ : (s₁.heap.push { cls := .type "list_iterator", data := .fields #[.ref l, .int 0 0] }).objs.size = s₁.heap.objs.size + 1 := Heap.size_push _ _
  have nI : ∀ p ∈ news, p.1 < s₁.heap.objs.size := fun p hp => Heap.lt_size (N p hp).1
  have LI : L < s₁.heap.objs.size := F.ns.lt
  have I₀ := next_is_new F
  have lI : l < s₁.heap.objs.size := (let ⟨_, e, _⟩ := hl₁; Heap.lt_size e)
  generalize hIa : s₁.heap.objs.size = I at it₁ sz₁ nI LI I₀ lI
  generalize hG : s₁.heap.push { cls := .type "list_iterator", data := .fields #[.ref l, .int 0 0] } = G at F₁ N₁ it₁ sz₁
  refine wpAny_newObj_type (newEnv_cell4 ?_)
  dsimp only
  have new₀ : ∀ c, G.objs.size ≤ c → h₀.get? c = none := fun c hc => by
    cases e : h₀.get? c with
    | none => rfl
    | some o => exact absurd (Heap.lt_size (F₁.keep c o e)) (Nat.not_lt.mpr hc)
  generalize hH1 : G.push { cls := .type "list", dict := none, data := .seq ([] : List Value).toArray } = H1
  have s1 : H1.objs.size = G.objs.size + 1 := by rw [← hH1]; exact Heap.size_push _ _
  generalize hH2 : H1.push { cls := .type "dict", data := .dict #[] } = H2
  have s2 : H2.objs.size = H1.objs.size + 1 := by rw [← hH2]; exact Heap.size_push _ _
  generalize hH3 : H2.push { cls := .type "cell", data := .cell none } = H3
  have up : ∀ c o, G.get? c = some o → H3.get? c = some o := fun c o e => hH3 ▸ Heap.get?_push_of_some _ (hH2 ▸ Heap.get?_push_of_some _ (hH1 ▸ Heap.get?_push_of_some _ e))
  have gD : H3.get? G.objs.size = some (lst []) := hH3 ▸ Heap.get?_push_of_some _ (hH2 ▸ Heap.get?_push_of_some _ (hH1 ▸ Heap.get?_push_size _ rfl))
  have gC : H3.get? H1.objs.size = some { cls := .type "dict", data := .dict #[] } := hH3 ▸ Heap.get?_push_of_some _ (hH2 ▸ Heap.get?_push_size _ rfl)
  have gc : H3.get? H2.objs.size = some { cls := .type "cell", data := .cell none } := hH3 ▸ Heap.get?_push_size _ rfl
  have D₀ := new₀ G.objs.size (Nat.le_refl _)
  have C₀ := new₀ H1.objs.size (by rw [s1]; exact Nat.le_succ _)
  have c₀ := new₀ H2.objs.size (by rw [s2, s1]; exact Nat.le_succ_of_le (Nat.le_succ _))
  have LG : L < G.objs.size := F₁.ns.lt
  generalize hDa : G.objs.size = D at s1 gD D₀ sz₁ LG
  generalize hCa : H1.objs.size = C at s1 s2 gC C₀
  generalize hca : H2.objs.size = c at s2 gc c₀
  have ID : I < D := by rw [sz₁]; exact Nat.lt_succ_self _
  have DC : D < C := by rw [s1]; exact Nat.lt_succ_self _
  have Cc : C < c := by rw [s2]; exact Nat.lt_succ_self _
  have lt4 : ∀ p ∈ news, p.1 ≠ I ∧ p.1 ≠ D ∧ p.1 ≠ C ∧ p.1 ≠ c := fun p hp => by
    have := nI p hp
    have i1 := Nat.lt_trans this ID
    have i2 := Nat.lt_trans i1 DC
    exact ⟨Nat.ne_of_lt this, Nat.ne_of_lt i1, Nat.ne_of_lt i2, Nat.ne_of_lt (Nat.lt_trans i2 Cc)⟩
  have LD : L ≠ D := Nat.ne_of_lt LG
  have LC : L ≠ C := Nat.ne_of_lt (Nat.lt_trans LG DC)
  have Lc : L ≠ c := Nat.ne_of_lt (Nat.lt_trans (Nat.lt_trans LG DC) Cc)
  have kx : (compEnvC (cellScope4 x n3 n4) ((x, c) :: cl) C env).kindOf x = some .cell := by
    simp [Env.kindOf, compEnvC, relabel, cellScope4, List.lookup, hx]
  have W := Walks.list (prog := prog) (w := w) (A := A) hh I l (Nat.ne_of_lt lI) its
  have sub1 : ∀ {h h' : Heap} {d : Addr}, Fr h₀ L h m → News h₀ L h news → (∀ b o, b ∉ [d] → h.get? b = some o → h'.get? b = some o) → L ≠ d → h₀.get? d = none → (∀ p ∈ news, p.1 ≠ d) → Fr h₀ L h' m ∧ News h₀ L h' news := fun F N k a b c => ⟨fr_but F k a b, news_but N k c⟩
  have one : ∀ {h h' : Heap} {d : Addr}, Heap.SameBut d h h' → ∀ b o, b ∉ [d] → h.get? b = some o → h'.get? b = some o := fun hs b o hb e => hs.extBut b o (by simpa using hb) e
  have loop : ∀ s₃ : Shared, s₃ = { s₁ with heap := H3 } →
      codeAny (model prog w) A (.compLoop (.ListComp elt [⟨.Name x px, iter, [], 0⟩] (cellScope4 x n3 n4) pos) 0 (.ref I) (.ref D) (compEnvC (cellScope4 x n3 n4) ((x, c) :: cl) C env)) (compPost (model prog w) A E none Q (.ref D) C) s₃ := by
    rintro s₃ rfl
    refine codeAny_compLoop_list (fun q s' => ∃ h' tk i vs oc v, s' = { s₁ with heap := h', toks := tk } ∧ i ≤ its.size ∧ q = its.size + 1 - i ∧ h'.IsListIter I l i ∧ Fr h₀ L h' m ∧ News h₀ L h' news ∧ h'.get? D = some (lst vs) ∧ h'.get? C = some { cls := .type "dict", data := .dict #[] } ∧ h'.get? c = some oc ∧ oc.data = .cell v ∧ (vs.length = i ∧ ∀ j v, vs[j]? = some v → R j v)) ?_ (its.size + 1)
      ⟨H3, _, 0, [], _, none, rfl, Nat.zero_le _, rfl, it₁.at fun o e => up _ o e, F₁.keeps up, N₁.grown up, gD, gC, gc, rfl, rfl, fun j v e => by simp at e⟩
    rintro q s' ⟨h', tk', i, vs, oc, v₀, rfl, hi, rfl, it', F', N', hD', hC', hc', hoc, hI'⟩
    by_cases hlt : i < its.size
    · refine W.item i _ _ _ hlt ⟨it', hl _ F' N'⟩ fun v h₂ tk₂ hv it₂ k₂ => ?_
      obtain ⟨oI, hI₂, hc9, hd9⟩ := it₂.1
      obtain ⟨F₂, N₂⟩ := sub1 F' N' k₂ (Nat.ne_of_lt LI) I₀ (fun p hp => (lt4 p hp).1)
      have hD₂ := k₂ _ _ (by simpa using (Nat.ne_of_gt ID)) hD'
      have hC₂ := k₂ _ _ (by simpa using (Nat.ne_of_gt (Nat.lt_trans ID DC))) hC'
      have hc₂ := k₂ _ _ (by simpa using (Nat.ne_of_gt (Nat.lt_trans (Nat.lt_trans ID DC) Cc))) hc'
      refine wpAny_assign_Name (wpAny_storeName_cell (c := c) rfl kx (by simp [compEnvC, List.lookup]) ⟨oc, hc₂, hoc⟩ fun h₃ hv₃ hs₃ => ?_)
      obtain ⟨oc₃, hc₃, hd₃⟩ := hv₃
      obtain ⟨F₃, N₃⟩ := sub1 F₂ N₂ (one hs₃) Lc c₀ (fun p hp => (lt4 p hp).2.2.2)
      have it₃ := hs₃.extBut _ _ (Nat.ne_of_lt (Nat.lt_trans (Nat.lt_trans ID DC) Cc)) hI₂
      have hD₃ := hs₃.extBut _ _ (Nat.ne_of_lt (Nat.lt_trans DC Cc)) hD₂
      have hC₃ := hs₃.extBut _ _ (Nat.ne_of_lt Cc) hC₂
      refine helt i v I oI C { cls := .type "dict", data := .dict #[] } c oc₃ D vs h₃ _ _ _ hv hd₃ F₃ (fun p hp => ?_) nI ⟨ID, DC, Cc⟩ fun g' v' tk' hR F₄ N₄ => ?_
      · rcases List.mem_cons.mp hp with rfl | hp
        · exact ⟨it₃, Nat.ne_of_gt LI, I₀⟩
        rcases List.mem_cons.mp hp with rfl | hp
        · exact ⟨hC₃, Ne.symm LC, C₀⟩
        rcases List.mem_cons.mp hp with rfl | hp
        · exact ⟨hc₃, Ne.symm Lc, c₀⟩
        rcases List.mem_cons.mp hp with rfl | hp
        · exact ⟨hD₃, Ne.symm LD, D₀⟩
        · exact N₃ p hp
      · have q1 := (N₄ _ (.head _)).1
        have q2 := (N₄ _ (.tail _ (.head _))).1
        have q3 := (N₄ _ (.tail _ (.tail _ (.head _)))).1
        have q4 := (N₄ _ (.tail _ (.tail _ (.tail _ (.head _))))).1
        have N₄' : News h₀ L g' news := fun p hp => N₄ p (.tail _ (.tail _ (.tail _ (.tail _ hp))))
        refine append_at (hsz := by show vs.toArray.size ≤ sizeLine; rw [List.size_toArray, hI'.1]; omega) q4 fun h₅ hs₅ hD₅ => ?_
        obtain ⟨F₅, N₅⟩ := sub1 F₄ N₄' (one hs₅) LD D₀ (fun p hp => (lt4 p hp).2.1)
        refine ⟨its.size + 1 - (i + 1), by omega, h₅, tk', i + 1, vs ++ [v'], oc₃, _, rfl, hlt, rfl, ⟨oI, hs₅.extBut _ _ (Nat.ne_of_lt ID) q1, hc9, hd9⟩, F₅, N₅, hD₅.trans (congrArg some (lst_snoc vs _)), hs₅.extBut _ _ (Nat.ne_of_gt DC) q2, hs₅.extBut _ _ (Nat.ne_of_gt (Nat.lt_trans DC Cc)) q3, hd₃, by rw [List.length_append, hI'.1]; rfl, fun j v e => ?_⟩
        rcases Nat.lt_or_ge j i with hj | hj
        · rw [List.getElem?_append_left (by rw [hI'.1]; exact hj)] at e
          exact hI'.2 j v e
        · rw [List.getElem?_append_right (by rw [hI'.1]; exact hj), hI'.1] at e
          have hj0 : j - i = 0 := by
            rcases Nat.eq_zero_or_pos (j - i) with h | h
            · exact h
            · rw [List.getElem?_eq_none (by show 1 ≤ j - i; omega)] at e; cases e
          rw [hj0] at e
          cases e
          obtain rfl : j = i := by omega
          exact hR
    · obtain rfl : i = its.size := Nat.le_antisymm hi (Nat.not_lt.mp hlt)
      refine W.done _ _ _ ⟨it', hl _ F' N'⟩ fun h₂ tk₂ k₂ => ?_
      obtain ⟨F₂, N₂⟩ := sub1 F' N' k₂ (Nat.ne_of_lt LI) I₀ (fun p hp => (lt4 p hp).1)
      have hD₂ := k₂ _ _ (by simpa using (Nat.ne_of_gt ID)) hD'
      have hC₂ := k₂ _ _ (by simpa using (Nat.ne_of_gt (Nat.lt_trans ID DC))) hC'
      refine ⟨fun _ => none, ⟨_, #[], 0, hC₂, rfl, fun _ h => by simp at h, fun _ => rfl⟩, fun h'' hs'' => ?_⟩
      obtain ⟨F₅, N₅⟩ := sub1 F₂ N₂ (one hs'') LC C₀ (fun p hp => (lt4 p hp).2.2.1)
      refine fin D h'' _ vs F₅ (fun p hp => ?_) (fun p hp => Nat.lt_trans (nI p hp) ID) hI'.1 hI'.2
      rcases List.mem_cons.mp hp with rfl | hp
      · exact ⟨hs''.extBut _ _ (Nat.ne_of_lt DC) hD₂, Ne.symm LD, D₀⟩
      · exact N₅ p hp
  exact codeAny_compStart_list (loop _ rfl) (wpAny_pyIter_listiter (it₁.at fun o e => up _ o e) (loop _ rfl))
end
end Mine

-- BJ
namespace Mine
open Builtin
theorem owner_bytes' : True := trivial
theorem slot_bytes_join : Slot "bytes" "join" "bytes.join" :=
  .of (owner := "bytes") (n := "join") (by rw [typeLookup_type, builtinLookup_eq_fast]; kernel_rfl) (by decide +kernel) (by decide +kernel) (by decide +kernel)
    (by first | exact .inl (by decide +kernel) | exact .inr (by decide +kernel)) (by rw [isSubtype_type]; kernel_rfl)
theorem type_bytes_join : typeOf (.builtin "bytes.join") = pure (.type "method_descriptor") := by show builtinType _ = _; rw [builtinType_eq_fast]; kernel_rfl
theorem entry_bytes_join : entryFor table "bytes.join" = some Builtin.«bytes.join» := entryFor_of_tree (by kernel_rfl)
theorem args_bytes_join_2 (a b : Value) : argsOk "bytes.join" ⟨[a, b], []⟩ := by
  unfold argsOk; rw [signature?_of (id := "bytes.join") (n := ['n', 'i', 'o', 'j']) (o := ['s', 'e', 't', 'y', 'b']) (by kernel_rfl) FB.owner_bytes]; kernel_rfl
theorem take_eq {id : String} {b : Array UInt8} {t : Tok} : Bytes.takeBuffer? id (.bytes b t) 0 = pure (some (b, none)) := by
  unfold Bytes.takeBuffer?
  rw [KBy.special_eq KBy.look_buffer, KBy.own_buffer, show ((0 : Int) == Bytes.fullReadOnly) = false from rfl, KBy.buffer_eq]
  kernel_rfl
theorem takeq_eq {id : String} {b : Array UInt8} {t : Tok} : Bytes.takeBufferQuiet? id (.bytes b t) 0 = pure (some (b, none)) := by
  unfold Bytes.takeBufferQuiet?
  rw [take_eq]
  rfl
theorem letgo_wp {M : Model} {A : Around} {E : Value → Shared → Prop} {s : Shared} {Q : Unit → Shared → Prop} (h : Q () s) : ∀ (l : List (Value × Option Value)) (keep : List Value), (∀ p ∈ l, p.2 = none) → wpAny M A (Bytes.joinLetGo l keep) Q E s
  | [], _, _ => by
    unfold Bytes.joinLetGo
    exact wpAny_pure h
  | (x, o) :: r, keep, hl => by
    obtain rfl : o = none := hl _ (.head _)
    unfold Bytes.joinLetGo
    show wpAny _ _ (Bind.bind (letGo _ _) _) _ _ _
    exact wpAny_bind (wpAny_letGo (letgo_wp h r keep fun p hp => hl p (.tail _ hp)))
theorem meets_join {l : Addr} {b0 b1 b2 b3 : Array UInt8} {t t0 t1 t2 t3 : Tok} :
    Meets («bytes.join» ⟨[.bytes #[] t, .ref l], []⟩) (fun _ R s => s.heap.IsList l #[.bytes b0 t0, .bytes b1 t1, .bytes b2 t2, .bytes b3 t3] ∧ b0.size + b1.size + b2.size + b3.size ≤ 16777216 ∧ ∀ t' k, R (.ok (.ret (.bytes (b0 ++ b1 ++ b2 ++ b3) t'))) { s with toks := k }) := by
  refine .of_wp fun prog w A R s hS => ?_
  obtain ⟨hl, hsz, h⟩ := hS
  show wpAny _ _ (Bytes.joinItems (.ref l) >>= fun seq => _) _ _ s
  unfold Bytes.joinItems
  refine wpAny_bind (wpAny_bind (wpAny_typeOf hl.typeIs ?_))
  obtain ⟨o, ho, hc, n, hd⟩ := hl
  rw [if_pos (by rfl)]
  refine wpAny_pure ?_
  refine wpAny_bind (wpAny_seqItems ho hd ?_)
  dsimp only
  rw [if_pos (by rfl)]
  rw [Std.Legacy.Range.forIn_eq_forIn_range']
  refine wpAny_bind ?_
  generalize hr : List.range' _ _ _ = r
  obtain rfl : r = [0, 1, 2, 3] := by rw [← hr]; simp [Std.Legacy.Range.size, List.range']
  clear hr
  rw [List.forIn_cons]
  refine wpAny_bind (wpAny_bind (wpAny_seqItems ho hd ?_))
  show wpAny _ _ (Bind.bind (holding _ (Bytes.takeBufferQuiet? _ (.bytes b0 t0) 0)) _) _ _ _
  refine wpAny_bind (wpAny_holding (wpAny_of_eq takeq_eq ?_))
  show wpAny _ _ (Bind.bind (seqItems? (.ref l)) _) _ _ _
  refine wpAny_bind (wpAny_seqItems ho hd ?_)
  show wpAny _ _ (pure (ForInStep.yield _)) _ _ _
  refine wpAny_pure ?_
  dsimp only
  rw [List.forIn_cons]
  refine wpAny_bind (wpAny_bind (wpAny_seqItems ho hd ?_))
  show wpAny _ _ (Bind.bind (holding _ (Bytes.takeBufferQuiet? _ (.bytes b1 t1) 0)) _) _ _ _
  refine wpAny_bind (wpAny_holding (wpAny_of_eq takeq_eq ?_))
  show wpAny _ _ (Bind.bind (seqItems? (.ref l)) _) _ _ _
  refine wpAny_bind (wpAny_seqItems ho hd ?_)
  show wpAny _ _ (pure (ForInStep.yield _)) _ _ _
  refine wpAny_pure ?_
  dsimp only
  rw [List.forIn_cons]
  refine wpAny_bind (wpAny_bind (wpAny_seqItems ho hd ?_))
  show wpAny _ _ (Bind.bind (holding _ (Bytes.takeBufferQuiet? _ (.bytes b2 t2) 0)) _) _ _ _
  refine wpAny_bind (wpAny_holding (wpAny_of_eq takeq_eq ?_))
  show wpAny _ _ (Bind.bind (seqItems? (.ref l)) _) _ _ _
  refine wpAny_bind (wpAny_seqItems ho hd ?_)
  show wpAny _ _ (pure (ForInStep.yield _)) _ _ _
  refine wpAny_pure ?_
  dsimp only
  rw [List.forIn_cons]
  refine wpAny_bind (wpAny_bind (wpAny_seqItems ho hd ?_))
  show wpAny _ _ (Bind.bind (holding _ (Bytes.takeBufferQuiet? _ (.bytes b3 t3) 0)) _) _ _ _
  refine wpAny_bind (wpAny_holding (wpAny_of_eq takeq_eq ?_))
  show wpAny _ _ (Bind.bind (seqItems? (.ref l)) _) _ _ _
  refine wpAny_bind (wpAny_seqItems ho hd ?_)
  show wpAny _ _ (pure (ForInStep.yield _)) _ _ _
  refine wpAny_pure ?_
  dsimp only
  rw [List.forIn_nil]
  refine wpAny_pure ?_
  dsimp only
  refine wpAny_bind (wpAny_of_eq (show Bytes.payload (.bytes #[] t) = pure #[] from rfl) ?_)
  split
  · rename_i hh
    exact absurd hh (by rw [KBy.tooLong_not (by simp; omega)]; decide)
  have hj : Bytes.joined #[] ((((#[].push b0).push b1).push b2).push b3).toList = b0 ++ b1 ++ b2 ++ b3 := by
    simp [Bytes.joined, List.zipIdx]
  rw [hj]
  refine wpAny_bind ?_
  show wpAny _ _ (mkBytes _) _ _ _
  refine wpAny_mkBytes ?_ (by rw [sizeLine_eq]; simp only [Array.size_append]; omega)
  refine wpAny_bind (wpAny_holding (wpAny_point ?_))
  refine wpAny_bind (letgo_wp ?_ _ _ ?_)
  · refine wpAny_pure ⟨_, rfl, h _ _⟩
  · intro p hp
    simp only [List.nil_append, List.cons_append, List.mem_cons, List.not_mem_nil, or_false] at hp
    rcases hp with rfl | rfl | rfl | rfl <;> rfl
theorem join_K {prog : Program} {w : World} {A : Around} {E Q : Value → Shared → Prop} {s : Shared} {l : Addr} {b0 b1 b2 b3 : Array UInt8} {t t0 t1 t2 t3 : Tok} (hl : s.heap.IsList l #[.bytes b0 t0, .bytes b1 t1, .bytes b2 t2, .bytes b3 t3]) (hsz : b0.size + b1.size + b2.size + b3.size ≤ 16777216) (h : ∀ t' k, Q (.bytes (b0 ++ b1 ++ b2 ++ b3) t') { s with toks := k }) :
    wpAny (model prog w) A (call (.builtin "bytes.join") [.bytes #[] t, .ref l]) Q E s :=
  call_meets slot_bytes_join (typeIs_bytes _ _ _) entry_bytes_join (args_bytes_join_2 _ _) meets_join ⟨hl, hsz, h⟩
theorem join_method {M : Model} {A : Around} {E : Value → Shared → Prop} {s : Shared} {b : Array UInt8} {t : Tok} {pl : Sem Bool} {Q : Value × List Value → Shared → Prop} (h : Q (.builtin "bytes.join", [.bytes b t]) s) : wpAny M A (getMethod (.bytes b t) "join" pl) Q E s := by
  with_reducible exact KBd.method_of (.bytes b t) (typeIs_bytes _ _ _) slot_bytes_join type_bytes_join KBd.noRef h
end Mine

-- W9
namespace Mine
local macro_rules | `(tactic| walk_at "execs cons") => `(tactic| (k_here; (refine gen_toks ?_); intro tk))
local macro_rules | `(tactic| k_all) => `(tactic| first | exact all_ne (by assumption) | exact all_ne1 (by assumption))
local macro_rules | `(tactic| kba_size) => `(tactic| omega)
theorem fill_eq2 (n : Nat) : ((119 : Int) - (n : Int).fmod 64).fmod 64 + 1 - 1 = ((fillN n : Nat) : Int) := by
  rw [Int.fmod_eq_emod_of_nonneg _ (by decide), Int.fmod_eq_emod_of_nonneg _ (by decide)]
  unfold fillN
  omega
theorem pow_256 {prog : Program} {w : World} {A : Around} {E Q : Value → Shared → Prop} {s : Shared} {k : Nat} {t u : Tok} (hq : k < 32) (h : Q (.int (256 ^ (0 + (k : Int) * 1).toNat) s.toks) { s with toks := s.toks + 1 }) : wpAny (model prog w) A (binaryOp .Pow (.int 256 t) (.int (0 + (k : Int) * 1) u)) Q E s := pow_int_small (by omega) (by omega) (by decide) h
theorem oct256 (x k : Nat) : (((x : Int)).fdiv (256 ^ (0 + (k : Int) * 1).toNat)).fmod 256 = ((x / 256 ^ k % 256 : Nat) : Int) := by
  rw [show (0 + (k : Int) * 1).toNat = k by omega, Int.fdiv_eq_ediv_of_nonneg _ (Int.le_of_lt (Int.pow_pos (by decide))), Int.fmod_eq_emod_of_nonneg _ (by decide)]
  push_cast
  rfl
theorem div_256 {prog : Program} {w : World} {A : Around} {E Q : Value → Shared → Prop} {s : Shared} {k : Nat} {x : Int} {t u : Tok} (hq : k < 32) (h : Q (.int (x.fdiv (256 ^ (0 + (k : Int) * 1).toNat)) s.toks) { s with toks := s.toks + 1 }) : wpAny (model prog w) A (binaryOp .FloorDiv (.int x t) (.int (256 ^ (0 + (k : Int) * 1).toNat) u)) Q E s := by
  refine floordiv_int (Int.ne_of_gt (Int.pow_pos (by decide))) h (Or.inl (PyProof.noPylong_of_log2 ?_))
  rw [show (0 + (k : Int) * 1).toNat = k by omega]
  have e : ((256 : Int) ^ k).natAbs = 256 ^ k := by rw [Int.natAbs_pow]; rfl
  rw [e]
  refine (Nat.log2_lt (Nat.ne_of_gt (Nat.pow_pos (by decide)))).mpr ?_
  rw [← pow256]
  exact Nat.pow_lt_pow_right (by decide) (by omega)
theorem cell_of' {h₀ h : Heap} {L c : Addr} {o : Obj} {v : Option Value} {r : List (Addr × Obj)} (N : News h₀ L h ((c, o) :: r)) (hd : o.data = .cell v) : h.IsCell c v := cell_of N hd
theorem LSt.eta {h₀ h : Heap} {L a : Addr} {y1 y2 y3 y4 : Nat} {t0 t1 t2 t3 : Tok} {n : Nat} {r : List (Addr × Obj)} (N : News h₀ L h ((a, listOf [.int (y1 : Int) t0, .int (y2 : Int) t1, .int (y3 : Int) t2, .int (y4 : Int) t3].toArray n) :: r)) : ∃ c : LSt, c.row = a ∧ c.x = (y1, y2, y3, y4) ∧ News h₀ L h ((a, listOf c.vs.toArray c.n) :: r) := ⟨⟨a, n, (y1, y2, y3, y4), t0, t1, t2, t3⟩, rfl, rfl, N⟩
def wordO (x : Nat) : List Int := (List.range 4).map fun j => ((x / 256 ^ j % 256 : Nat) : Int)
theorem wordO_in (x : Nat) : KBa.In (wordO x) := by
  intro v hv
  obtain ⟨k, _, rfl⟩ := List.mem_map.1 hv
  have := Nat.mod_lt (x / 256 ^ k) (show 0 < 256 by decide)
  omega
theorem octs_words (x : S4) : octs x = wordO (q4 x 0) ++ wordO (q4 x 1) ++ wordO (q4 x 2) ++ wordO (q4 x 3) := rfl
theorem four_of {vs : List Value} {R : Nat → Value → Prop} (hl : vs.length = 4) (h : ∀ j v, vs[j]? = some v → R j v) : ∃ v0 v1 v2 v3, vs = [v0, v1, v2, v3] ∧ R 0 v0 ∧ R 1 v1 ∧ R 2 v2 ∧ R 3 v3 := by
  match vs, hl with
  | [a, b, c, d], _ => exact ⟨a, b, c, d, rfl, h 0 a rfl, h 1 b rfl, h 2 c rfl, h 3 d rfl⟩
theorem ints_app (a b : Array UInt8) : KBw.bInts (a ++ b) = KBw.bInts a ++ KBw.bInts b := by simp [KBw.bInts]
local macro_rules | `(tactic| walk_at $k) => if ["pyIter ref", "call ref", "eval ListComp", "call type:bytes", "getMethod bytes", "call builtin:bytes.join", "call builtin:len", "binaryOp Add bytes bytes", "binaryOp Pow int int", "binaryOp FloorDiv int int"].contains k.getString then `(tactic| refine Stop.out ?_) else Lean.Macro.throwUnsupported
local macro_rules | `(tactic| walk_at "eval Name") => `(tactic| ((with_reducible show wpAny _ _ (eval _ (compEnvC _ _ _ _)) _ _ _); first | refine ldVarK (by assumption) (by with_reducible assumption) ?_ | k_dflt (refine ldFreeK rfl (by with_reducible assumption) ?_)))
section
variable {w : World} {p : Program} {loose : List Str} {mean : ExcName → Option Value} {mg mb : Str → Option Value}

theorem law_due_tl (news : List (Addr × Obj)) (bb : Array UInt8) (t : Tok) (ks : List Int) (hk : KBw.bInts bb = ks) (hl : ks.length ≤ 4096) (hpl : (padL ks).length = 64 * blocks ks.length) (hnb : (padL ks).length ≤ 4200) :
   Tl w p loose mean mg mb 105 news [.bytes bb t] 3 (fun tl r => tl = [] ∧ ∃ b' t', r = .bytes b' t' ∧ KBw.bInts b' = dig ks) := by
  w_top off
  unfold Tl
  k_fill
  intro dp un gd cn cs a ccd cl outer A₀ base h₀ L m s Q E B F X N T hkf hd hu hret
  refine wpAny_call ?_
  k_dflt (refine' code_defC ?k1 ?k2 ?k3 ?k4 ?k5 ?kA ?kF ?kK ?k6 ?k7 ?k8 ?k9 ?kB ?kD ?_ ?c2 ?c3 ?c4; (case kA => exact rfl); (case kF => exact rfl); (case kK => first | exact rfl | assumption); (case k1 => k_asm); (case k2 => k_asm); (case k3 => k_asm); (case k4 => k_asm); (case k5 => k_asm); (case k6 => k_is); (case k7 => k_is); (case k8 => ktr_room); (case k9 => exact BindsTo.of_eq rfl); (case kB => exact rfl); (case kD => decide +kernel); (case c2 => exact rfl); (case c3 => exact rfl); (case c4 => exact rfl); k_whole; intro g' L' h' tk' cells' FG' F' N' Y' B' X' T' l1; (try k_lt l1); k_cells Y'; (try simp only [List.cons_append, List.nil_append] at N'); (try dsimp only); (try k_lift B'); (try k_fold))
  k_steps
  refine Stop.in ?_
  refine KBw.len_K hk (by omega) ?_
  k_steps
  refine Stop.in ?_
  refine KBa.add_K hk (by decide : KBw.bInts #[128] = [128]) (by simp only [List.length_append, List.length_replicate, List.length_map, List.length_cons, List.length_nil, List.length_range, lenB_len]; omega) ?_
  intro _ _ ka1
  k_steps
  have hf := fill_lt ks.length
  refine Stop.in ?_
  refine call_bytes_int (n := fillN ks.length) (fill_eq2 _) hf ?_
  intro t7 k7 hz7
  k_steps
  refine Stop.in ?_
  refine KBa.add_K ka1 hz7 (by simp only [List.length_append, List.length_replicate, List.length_map, List.length_cons, List.length_nil, List.length_range, lenB_len]; omega) ?_
  intro _ _ ka2
  k_steps
  refine Stop.in ?_
  k_dflt (refine comp_walk (by k_asm) (by with_unfolding_all rfl) (by decide) (by rfl) (by decide) (by rfl) ?_)
  k_steps
  rename IsRange _ _ _ _ _ _ _ _ => rgX
  refine src_range 8 (fun k => ((8 * ks.length / 256 ^ k % 256 : Nat) : Int)) rgX (by decide) (by decide) (by rfl) (by k_asm) (by k_asm) (by rw [sizeLine_eq]; decide) ?helt2 ?fin2
  case helt2 =>
    intro k tk2 C2 m2 g2 tk3 Q2 E2 hk4 hns2 hm2 F9 N9 hq2
    have hk5 : k < 32 := by omega
    have hoct := cell_of (fun p hp => N9 p hp) (by assumption)
    k_steps
    refine Stop.in ?_
    refine KBw.len_K hk (by omega) ?_
    k_steps
    refine Stop.in ?_
    refine pow_256 hk5 ?_
    k_steps
    refine Stop.in ?_
    refine div_256 hk5 ?_
    k_steps
    exact q_int (oct256 (8 * ks.length) k) (hq2 _ _)
  case fin2 =>
    intro D2 g2 tk2 vs2 F9 N9 hI2
    k_steps
    refine Stop.in ?_
    have hI3 : IntsAre vs2 (lenB ks.length) := hI2
    clear hI2
    refine KBa.make_K F9 N9 (by rfl) (News.isList N9 (.head _)) hI3 (lenB_in _) (by rw [lenB_len]; decide) ?_
    intro h8 t8 k8 F8 N8 i8
    have e8 := KBa.ints_make i8
    have e9 := lenB_len ks.length
    k_steps
    refine Stop.in ?_
    refine KBa.add_K ka2 e8 (by simp only [List.length_append, List.length_replicate, List.length_map, List.length_cons, List.length_nil, List.length_range, lenB_len]; omega) ?_
    intro _ _ ka3
    k_steps
    refine Stop.in ?_
    refine KBw.len_K ka3 (by simp only [List.length_append, List.length_replicate, List.length_map, List.length_cons, List.length_nil, List.length_range, lenB_len]; omega) ?_
    k_steps
    refine Stop.in ?_
    with_reducible rename Fr _ _ _ _ => lF
    with_reducible rename News _ _ _ _ => lN
    rename IsRange _ _ _ _ _ _ _ _ => rgX
    have e7 := (by with_reducible assumption : KBw.bInts (_ ++ byteArr (lenB ks.length)) = _)
    have e6 : KBw.bInts (bb ++ #[128] ++ Array.replicate (fillN ks.length) 0 ++ byteArr (lenB ks.length)) = padL ks := e7
    clear e7
    with_reducible rename KBw.bInts (_ ++ byteArr (lenB ks.length)) = ks ++ _ ++ _ ++ _ => e5
    clear e5
    obtain ⟨⟨row9, n9, x9, u0, u1, u2, u3⟩, hc1, hc2, lN9⟩ := LSt.eta (y1 := 1732584193) (y2 := 4023233417) (y3 := 2562383102) (y4 := 271733878) lN
    dsimp only at hc1 hc2
    subst hc1 hc2
    have lt9 := (by assumption : _ < row9 ∧ _ < row9 ∧ AllLt row9 news)
    have rg2 : IsRange _ _ 0 (((padL ks).length : Nat) : Int) 64 _ _ _ := rgX
    clear rgX
    refine range_st (σ := LSt) (fun c => [(Str.ofString "whole", ?wv), (Str.ofString "state", .ref c.row)]) (fun c => (c.row, listOf c.vs.toArray c.n) :: news) (fun i c => c.x = runs (padL ks) i start ∧ ∀ p ∈ news, p.1 < c.row) ⟨row9, n9, _, u0, u1, u2, u3⟩ (blocks ks.length) (by rfl) rg2 (range_small hpl (by omega)) (range_size hpl) lF (fun p hp => lN9 p ?sub0) ⟨rfl, ktn_ltOf lt9.2.2⟩ ?hps ?turn ?done
    case hps =>
      k_dflt (simp only [List.forall_mem_cons]; refine ⟨by with_unfolding_all rfl, by with_unfolding_all rfl, fun _ h => nomatch h⟩)
    case sub0 =>
      rcases List.mem_cons.mp hp with rfl | hp
      · exact .head _
      · exact .tail _ (.tail _ (.tail _ hp))
    case turn =>
      clear lF lN lN9 rg2
      rintro I ⟨row, n9, ⟨x1, x2, x3, x4⟩, t0, t1, t2, t3⟩ i u v t' h tk hi ⟨hP, hrl⟩ hv off lF lN
      dsimp only at hP hrl off
      have hok : Ok4 (x1, x2, x3, x4) := by rw [hP]; exact runs_ok _ _
      dsimp only [LSt.vs] at lN
      k_steps
      refine Stop.in ?_
      refine tl_use (by k_asm) (by k_asm) (by k_asm) (by k_asm) (by k_asm) (law_words_tl _ _ _ _ ((by assumption : KBw.bInts (KBy.picked _ _ _) = _).trans (slice_blk (by assumption) (by assumption) (by assumption))) (blk_len (by assumption) (by assumption))) (by first | exact rfl | assumption) (by ktr_room) (by ktr_units) ?_
      rintro r9 tl9 h9 tk9 F9 N9 o9 ⟨a9, us9, n7, rfl, rfl, i9⟩
      simp only [List.nil_append, List.cons_append] at N9
      k_steps
      refine Stop.in ?_
      refine tl_use (by k_asm) (by k_asm) (by k_asm) (by k_asm) (by k_asm) (law_block_tl _ _ _ _ _ _ _ _ _ _ _ _ _ _ _ (.tail _ (.tail _ (.head _))) (.head _) (by assumption) (by assumption)) (by first | exact rfl | assumption) (by ktr_room) (by ktr_units) ?_
      rintro r9 tl9 h9 tk9 F9 N9 o9 ⟨a9, u0, u1, u2, u3, n9, rfl, rfl⟩
      simp only [List.nil_append, List.cons_append] at N9
      k_steps
      with_reducible rename Fr _ _ _ _ => lF2
      with_reducible rename News _ _ _ _ => lN2
      obtain ⟨⟨a9, n8, x9, v0, v1, v2, v3⟩, e1, e2, lN9⟩ := turn_fin (blockN (wd (blkOf (padL ks) i)) (x1, x2, x3, x4)) lN2 rfl rfl rfl rfl
      dsimp only at e1 e2
      subst e1
      have o8 := (by assumption : ∀ q ∈ (_ :: (I, krsIt _ _ _) :: _ : List (Addr × Obj)), ∀ p ∈ [(a9, _)], q.1 < p.1)
      have o9 := fun q hq => o8 q hq _ (.head _)
      refine TurnEnd.next ⟨a9, n8, x9, v0, v1, v2, v3⟩ lF2 lN9 ?hps ?sub ?off ⟨?fin1, fun p hp => o9 p (.tail _ (.tail _ (.tail _ hp)))⟩
      case hps =>
        k_dflt (simp only [List.forall_mem_cons]; refine ⟨by with_unfolding_all rfl, by with_unfolding_all rfl, fun _ h => nomatch h⟩)
      case sub =>
        intro p hp
        rcases List.mem_cons.mp hp with rfl | hp
        · exact .tail _ (.tail _ (.head _))
        · rcases List.mem_cons.mp hp with rfl | hp
          · exact .head _
          · exact .tail _ (.tail _ (.tail _ (.tail _ hp)))
      case off =>
        intro p hp
        rcases List.mem_cons.mp hp with rfl | hp
        · exact Nat.ne_of_gt (o9 _ (.tail _ (.head _)))
        · exact off p (.tail _ hp)
      case fin1 =>
        show x9 = blockN (wd (blkOf (padL ks) i)) (runs (padL ks) i start)
        rw [← hP, e2]
    case done =>
      clear lF lN lN9 rg2
      rintro ⟨row, n9, ⟨y1, y2, y3, y4⟩, t0, t1, t2, t3⟩ u h tk ⟨hP, hrl⟩ lF lN
      dsimp only at hP hrl
      dsimp only [LSt.vs] at lN
      k_steps
      refine Stop.in ?_
      refine join_method ?_
      k_steps
      refine Stop.in ?_
      k_dflt (refine comp_cellL (by k_asm) (by with_unfolding_all rfl) (by decide) ?_)
      k_steps
      refine ⟨row, _, _, fun i v => ∃ b t, v = .bytes b t ∧ KBw.bInts b = wordO (q4 (y1, y2, y3, y4) i), rfl, rfl, fun h F N => News.isList N (.head _), lF, lN, by (rw [sizeLine_eq]; exact (by decide : (4 : Nat) ≤ 16777216)), ?helt, ?fin⟩
      case helt =>
        intro i v I oI C oC c oc D ys g tk9 Q' E' hv hoc F8 N8 l8 o8 hq
        have hi : i < 4 := by
          rcases Nat.lt_or_ge i 4 with h | h
          · exact h
          · rw [Array.getElem?_eq_none (by exact h)] at hv; cases hv
        obtain ⟨tv, rfl⟩ : ∃ tv, v = .int ((q4 (y1, y2, y3, y4) i : Nat) : Int) tv := four_at hi hv
        k_steps
        refine Stop.in ?_
        k_dflt (refine comp_walk F8 (by with_unfolding_all rfl) (by decide) (by rfl) (by decide) (by rfl) ?_)
        k_steps
        rename IsRange _ _ _ _ _ _ _ _ => rgX
        refine src_range 4 (fun k => ((q4 (y1, y2, y3, y4) i / 256 ^ k % 256 : Nat) : Int)) rgX (by decide) (by decide) (by rfl) (by k_asm) (by k_asm) (by rw [sizeLine_eq]; decide) ?helt2 ?fin2
        case helt2 =>
          intro k tk2 C2 m2 g2 tk3 Q2 E2 hk4 hns2 hm2 F9 N9 hq2
          have hk5 : k < 32 := by omega
          have hat : g2.IsCell c (some (.int ((q4 (y1, y2, y3, y4) i : Nat) : Int) tv)) := ⟨oc, (N9 (c, oc) (.tail _ (.tail _ (.head _)))).1, hoc⟩
          k_steps
          refine Stop.in ?_
          refine pow_256 hk5 ?_
          k_steps
          refine Stop.in ?_
          refine div_256 hk5 ?_
          k_steps
          exact q_int (oct256 _ k) (hq2 _ _)
        case fin2 =>
          intro D2 g2 tk2 vs2 F9 N9 hI2
          have hI3 : IntsAre vs2 (wordO (q4 (y1, y2, y3, y4) i)) := hI2
          clear hI2
          k_steps
          refine Stop.in ?_
          refine KBa.make_K F9 N9 (by rfl) (News.isList N9 (.head _)) hI3 (wordO_in _) (by rw [wordO, List.length_map, List.length_range]; decide) ?_
          intro h8 t8 k8 F8 N8 i8
          exact hq _ _ _ ⟨_, _, rfl, KBa.ints_make i8⟩ F8 (fun p hp => N8 p (.tail _ hp))
      case fin =>
        intro D g tk9 vs F8 N8 l8 hvl hvs
        obtain ⟨v0, v1, v2, v3, rfl, ⟨c0, s0, rfl, z0⟩, ⟨c1, s1, rfl, z1⟩, ⟨c2, s2, rfl, z2⟩, ⟨c3, s3, rfl, z3⟩⟩ := four_of hvl hvs
        k_steps
        refine Stop.in ?_
        have hs : ∀ (b : Array UInt8) (x : Nat), KBw.bInts b = wordO x → b.size = 4 := fun b x h => by
          have := congrArg List.length h
          rw [KBw.ints_length, wordO, List.length_map, List.length_range] at this
          exact this
        refine join_K (News.isList N8 (.head _)) (by rw [hs _ _ z0, hs _ _ z1, hs _ _ z2, hs _ _ z3]; decide) fun t' k' => ?_
        have e8 : KBw.bInts (c0 ++ c1 ++ c2 ++ c3) = dig ks := by
          rw [ints_app, ints_app, ints_app, z0, z1, z2, z3, ← octs_words, hP, dig_def]
        k_steps
        exact hret _ [] _ _ (by k_asm) (drop_to (by k_asm) (fun p hp => .tail _ (.tail _ hp))) no_tl ⟨rfl, _, _, rfl, e8⟩
end
end Mine

-- W10
namespace Mine
def TlU (w : World) (p : Program) (loose : List Str) (mean : ExcName → Option Value) (mg mb : Str → Option Value) (f : Addr) (pre : List (Addr × Obj)) (vs : List Value) (lv : Nat) (Out : List (Addr × Obj) → Value → Prop) : Prop :=
  ∀ (dp un : Nat) (gd : Option (List Code)) (cn : Str) (cs : Scope) (a : Addr) (ccd : Value) (cl : List (Str × Addr)) (outer : List Env) (A₀ : Around) (base h₀ : Heap) (L : Addr) (m : Str → Option Value) (s : Shared)
    (Q E : Value → Shared → Prop),
    Below A₀ base outer h₀ → Fr h₀ L s.heap m → (hd.heap_39 w.params).In h₀ → News h₀ L s.heap pre → Top p loose mean mg mb h₀ → cs.kind = .function → dp + lv < recursionLimit → un + 8 * lv < cLine →
    (∀ r post h' tk', Fr h₀ L h' m → News h₀ L h' post → Out post r → Q r { s with heap := h', toks := tk' }) →
    wpAny (model PySem.Challenge.rw_pc0356_01.row.prog w) (ktrTop dp un gd cn cs L a ccd cl outer) (call (.ref f) vs) Q E s
theorem tlu_use {w : World} {p : Program} {loose : List Str} {mean : ExcName → Option Value} {mg mb : Str → Option Value} {f : Addr} {pre : List (Addr × Obj)} {vs : List Value} {lv : Nat} {Out : List (Addr × Obj) → Value → Prop}
    {dp un : Nat} {gd : Option (List Code)} {cn : Str} {cs : Scope} {a : Addr} {ccd : Value} {cl : List (Str × Addr)} {outer : List Env} {A₀ : Around} {base h₀ : Heap} {L : Addr} {m : Str → Option Value} {s : Shared}
    {Q E : Value → Shared → Prop} (B : Below A₀ base outer h₀) (F : Fr h₀ L s.heap m) (X : (hd.heap_39 w.params).In h₀) (N : News h₀ L s.heap pre) (T : Top p loose mean mg mb h₀) (C : TlU w p loose mean mg mb f pre vs lv Out) (hk : cs.kind = .function) (hd : dp + lv < recursionLimit) (hu : un + 8 * lv < cLine)
    (ret : ∀ r post h' tk', Fr h₀ L h' m → News h₀ L h' post → Out post r → Q r { s with heap := h', toks := tk' }) :
    wpAny (model PySem.Challenge.rw_pc0356_01.row.prog w) (ktrTop dp un gd cn cs L a ccd cl outer) (call (.ref f) vs) Q E s := C _ _ _ _ _ _ _ _ _ _ _ _ _ _ _ _ _ B F X N T hk hd hu ret
abbrev srcO (x y : Int) (t0 t1 : Tok) (ea : Addr) (n : Nat) : Obj := listOf [.int x t0, .int y t1, .ref ea].toArray n
abbrev nilO (n : Nat) : Obj := listOf ([] : List Value).toArray n
local macro_rules | `(tactic| k_all) => `(tactic| with_reducible assumption)
theorem ne_cons {prog : Program} {w : World} {A : Around} {E Q : Value → Shared → Prop} {s : Shared} {a b : Addr} {r : Int} {tr : Tok} {us : List Value} {rs : List Int} (ha : s.heap.IsList a (Value.int r tr :: us).toArray) (hb : s.heap.IsList b ([] : List Value).toArray) (hi : IntsAre (Value.int r tr :: us) (r :: rs)) (hu : A.units + 64 < cLine) (h : Q (.bool true) s) :
    wpAny (model prog w) A (compareOp .NotEq (.ref a) (.ref b)) Q E s :=
  ke_ne_ints ha hb hi .nil hu (by rw [decide_eq_false (List.cons_ne_nil r rs)]; exact h)
local macro_rules | `(tactic| walk_at "compareOp NotEq ref ref") => `(tactic| (k_here; (refine Stop.out ?_)))
local macro_rules | `(tactic| walk_at "call builtin:list.pop") => `(tactic| (k_here; (refine Stop.out ?_)))
/-- the source's list, and the list within it, ints in both -/
def SrcL (sa ea : Addr) (rest nw : List (Addr × Obj)) : Prop := ∃ (x y : Int) (t0 t1 : Tok) (n : Nat) (us : List Value) (rs : List Int) (n2 : Nat), 0 ≤ x ∧ 0 ≤ y ∧ IntsAre us rs ∧ rs.length ≤ 64 ∧ nw = (sa, srcO x y t0 t1 ea n) :: (ea, listOf us.toArray n2) :: rest
theorem seq0 {v : Value} {vs : List Value} : seqIndex? 0 (v :: vs).toArray.size = some 0 := by
  unfold seqIndex?
  simp
section
variable {w : World} {p : Program} {loose : List Str} {mean : ExcName → Option Value} {mg mb : Str → Option Value}
theorem take_tl (rest pre : List (Addr × Obj)) (sa ea : Addr) (tt : Tok) (top : Nat) (he : @Ne Nat ea sa) (ho : ∀ p ∈ rest, p.1 ≠ sa) (ho2 : ∀ p ∈ rest, p.1 ≠ ea) (h1 : 0 < top) (h2 : top ≤ 256) (hS : SrcL sa ea rest pre) :
   TlU w p loose mean mg mb 76 pre [.ref sa, .int (top : Int) tt] 12 (fun post r => SrcL sa ea rest post ∧ ∃ v t', r = .int v t' ∧ 0 ≤ v ∧ v < (top : Int)) := by
  obtain ⟨x, y, t0, t1, n, us, rs, n2, hx, hy, hI, hrl, rfl⟩ := hS
  have he' : @Ne Nat sa ea := he.symm
  w_top off
  unfold TlU
  k_fill
  intro dp un gd cn cs a ccd cl outer A₀ base h₀ L m s Q E B F X N T hkf hd hu hret
  cases hI with
  | nil =>
    refine wpAny_call ?_
    k_dflt ktr_enter
    k_steps
    refine Stop.in ?_
    k_dflt (refine ke_ne_ints (xs := []) (ys := []) (ns := []) (ms := []) (News.isList (by k_asm) (by k_mem)) (News.isList (by k_asm) (by k_mem)) .nil .nil (by first | ke_room | ktr_units) ?_)
    k_steps
    · with_reducible rename News _ _ _ _ => lN
      refine hret _ _ _ _ (by k_asm) (fun p hp => lN p (.tail _ hp)) ⟨⟨_, _, _, _, _, [], [], _, ?_, hy, .nil, by decide, rfl⟩, _, _, rfl, ?_, ?_⟩
      · rw [Int.fdiv_eq_ediv_of_nonneg _ (by omega)]
        exact Int.ediv_nonneg hx (by omega)
      · rw [Int.fmod_eq_emod_of_nonneg _ (by omega)]
        exact Int.emod_nonneg _ (by omega)
      · rw [Int.fmod_eq_emod_of_nonneg _ (by omega)]
        exact Int.emod_lt_of_pos _ (by omega)
    · with_reducible rename News _ _ _ _ => lN
      refine hret _ _ _ _ (by k_asm) (fun p hp => lN p (.tail _ hp)) ⟨⟨_, _, _, _, _, [], [], _, hx, ?_, .nil, by decide, rfl⟩, _, _, rfl, ?_, ?_⟩
      · rw [Int.fmod_eq_emod_of_nonneg _ (by omega)]
        exact Int.emod_nonneg _ (by omega)
      · rw [Int.fmod_eq_emod_of_nonneg _ (by omega)]
        exact Int.emod_nonneg _ (by omega)
      · rw [Int.fmod_eq_emod_of_nonneg _ (by omega)]
        exact Int.emod_lt_of_pos _ (by omega)
  | cons r tr hI =>
    rename_i us rs
    have hlen := hI.length
    rw [List.length_cons] at hrl
    refine wpAny_call ?_
    k_dflt ktr_enter
    k_steps
    refine Stop.in ?_
    k_dflt (refine ne_cons (News.isList (by k_asm) (by k_mem)) (News.isList (by k_asm) (by k_mem)) (.cons _ _ hI) (by first | ke_room | ktr_units) ?_)
    k_steps
    refine Stop.in ?_
    k_dflt (refine kl_popAt (k := 0) (p := []) (q := us) (by k_asm) (by k_asm) (by decide) seq0 (by rfl) (by k_upd) (by rw [sizeLine_eq]; (simp only [List.length_cons]); omega) ?_)
    intro h' F' N'
    (try dsimp only [List.nil_append] at N')
    k_steps
    with_reducible rename News _ _ _ _ => lN
    refine hret _ _ _ _ (by k_asm) (fun p hp => lN p (.tail _ hp)) ⟨⟨_, _, _, _, _, us, rs, _, hx, hy, hI, by omega, rfl⟩, _, _, rfl, ?_, ?_⟩
    · rw [Int.fmod_eq_emod_of_nonneg _ (by omega)]
      exact Int.emod_nonneg _ (by omega)
    · rw [Int.fmod_eq_emod_of_nonneg _ (by omega)]
      exact Int.emod_lt_of_pos _ (by omega)
end
end Mine

-- W11
namespace Mine
local macro_rules | `(tactic| k_all) => `(tactic| with_reducible assumption)
local macro_rules | `(tactic| walk_at $k) => if ["call builtin:len", "call ref", "subscriptTail"].contains k.getString then `(tactic| refine Stop.out ?_) else Lean.Macro.throwUnsupported
theorem int_at {ns : List Int} {v : Int} (h0 : 0 ≤ v) (h1 : v < (ns.length : Int)) : v = ((v.toNat : Nat) : Int) ∧ ∃ x, ns[v.toNat]? = some x ∧ x ∈ ns := by
  have h : v.toNat < ns.length := by omega
  exact ⟨by omega, ns[v.toNat], by simp [h], List.getElem_mem h⟩
section
variable {w : World} {p : Program} {loose : List Str} {mean : ExcName → Option Value} {mg mb : Str → Option Value}
theorem one_tl (rest pre : List (Addr × Obj)) (sa ea ta : Addr) (n3 : Nat) (us : List Value) (ns : List Int) (he : @Ne Nat ea sa) (hta : @Ne Nat ta sa) (hta2 : @Ne Nat ta ea) (ho : ∀ p ∈ rest, p.1 ≠ sa) (ho2 : ∀ p ∈ rest, p.1 ≠ ea) (hI : IntsAre us ns) (h1 : 0 < ns.length) (h2 : ns.length ≤ 256) (hS : SrcL sa ea ((ta, listOf us.toArray n3) :: rest) pre) :
   TlU w p loose mean mg mb 83 pre [.ref sa, .ref ta] 13 (fun post r => SrcL sa ea ((ta, listOf us.toArray n3) :: rest) post ∧ ∃ v t', r = .int v t' ∧ v ∈ ns) := by
  obtain ⟨x, y, t0, t1, n, vs, rs, n2, hx, hy, hR, hrl, rfl⟩ := hS
  w_top off
  unfold TlU
  k_fill
  intro dp un gd cn cs a ccd cl outer A₀ base h₀ L m s Q E B F X N T hkf hd hu hret
  refine wpAny_call ?_
  k_dflt ktr_enter
  k_steps
  have hul := hI.length
  refine Stop.in ?_
  refine call_len_list (News.isList (by k_asm) (.tail _ (.tail _ (.head _)))) (by rw [List.size_toArray]; omega) ?_
  rw [List.size_toArray, hul]
  k_steps
  refine Stop.in ?_
  refine' tlu_use ?k1 ?k2 ?k3 ?k4 ?k5 (take_tl ((ta, listOf us.toArray n3) :: rest) _ sa ea _ ns.length he ?ho ?ho2 h1 h2 ⟨x, y, t0, t1, n, vs, rs, n2, hx, hy, hR, hrl, rfl⟩) ?kK ?kd ?ku ?_
  case k1 => k_asm
  case k2 => k_asm
  case k3 => k_asm
  case k4 => k_asm
  case k5 => k_asm
  case ho => exact List.forall_mem_cons.mpr ⟨hta, ho⟩
  case ho2 => exact List.forall_mem_cons.mpr ⟨hta2, ho2⟩
  case kK => first | exact rfl | assumption
  case kd => ktr_room
  case ku => ktr_units
  rintro r9 post9 h9 tk9 F9 N9 ⟨⟨x9, y9, t09, t19, n9, vs9, rs9, n29, hx9, hy9, hR9, hrl9, rfl⟩, v9, t9, rfl, hv0, hv1⟩
  k_steps
  refine Stop.in ?_
  obtain ⟨e9, z9, hz, hzm⟩ := int_at hv0 hv1
  refine sub_list' N9 (.tail _ (.tail _ (.head _))) hI e9 hz (by omega) fun t' => ?_
  k_steps
  with_reducible rename News _ _ _ _ => lN
  exact hret _ _ _ _ (by k_asm) lN ⟨⟨x9, y9, t09, t19, n9, vs9, rs9, n29, hx9, hy9, hR9, hrl9, rfl⟩, _, _, rfl, hzm⟩
end
end Mine

-- SE
namespace Mine
open PyProof.Rows.LCg
section
variable {prog : Program} {w : World} {A : Around} {E : Value → Shared → Prop} {s : Shared} {h₀ : Heap} {L : Addr} {m : Str → Option Value} {env : Env}
theorem end_mono {s₁ s₂ : Shared} {I C D : Addr} {oI oC oD : Obj} {S : List (Addr × Obj) → Prop} {r r' : Value → List (Addr × Obj) → Prop} {y : Value} (h : CompEnd h₀ L m s₁ I oI C oC D oD S r y s₂) (hr : ∀ nw, S nw → r y nw → r' y nw) : CompEnd h₀ L m s₁ I oI C oC D oD S r' y s₂ := by
  obtain ⟨h', tk, nw, e, F, N, o, hS, q⟩ := h
  exact ⟨h', tk, nw, e, F, N, o, hS, hr nw hS q⟩
/-- elements that may change what the ledger holds, so long as S stays -/
theorem effect_rest {elt : Expr} {x : Str} {scope : Scope} {cl : List (Str × Addr)} {S : List (Addr × Obj) → Prop} {P : Nat → Value → Prop} {Fin : List Value → List (Addr × Obj) → Prop} {n : Nat} (R : Int → Prop)
    (helt : ∀ i v I oI C oC D m₂ ys g tk nw (E' : Value → Shared → Prop), i < n → P i v → NsObj oC m₂ → m₂ x = some v → Fr h₀ L g m → News h₀ L g ((I, oI) :: (C, oC) :: (D, lst ys) :: nw) → Off3 I C D nw → ((@Ne Nat I C) ∧ (@Ne Nat I D) ∧ (@Ne Nat C D)) → S nw →
      wpAny (model prog w) A (eval elt (compEnvC scope cl C env)) (CompEnd h₀ L m { s with heap := g, toks := tk } I oI C oC D (lst ys) S (fun y _ => ∃ k t', y = .int k t' ∧ R k)) E' { s with heap := g, toks := tk })
    (fin : ∀ ys ks nw, S nw → IntsAre ys ks → ks.length = n → (∀ k ∈ ks, R k) → Fin ys nw) :
    ∀ k i ys ks nw, i + k = n → S nw → IntsAre ys ks → ks.length = i → (∀ k ∈ ks, R k) → CompRest prog w A h₀ L m env elt x scope cl s S P Fin k i ys nw := by
  intro k
  induction k with
  | zero =>
    intro i ys ks nw hi hS hI hl hR
    exact CompRest.zero (fin ys ks nw hS hI (by omega) hR)
  | succ k ih =>
    intro i ys ks nw hi hS hI hl hR
    refine CompRest.succ fun v I oI C oC D m₂ h tk E' hP hC hx F N off ne => ?_
    refine wpAny_mono (helt i v I oI C oC D m₂ ys h tk nw E' (by omega) hP hC hx F N off ne hS) (fun y s₂ hq => ?_) fun _ _ e => e
    refine end_mono hq fun nw' hS' hy => ?_
    obtain ⟨z, t', rfl, hz⟩ := hy
    refine ih (i + 1) _ (ks ++ [z]) nw' (by omega) hS' (hI.append (.cons _ _ .nil)) (by rw [List.length_append, hl]; rfl) ?_
    intro q hq
    rcases List.mem_append.mp hq with hq | hq
    · exact hR q hq
    · rw [List.mem_singleton.mp hq]; exact hz
theorem src_rangeE {elt : Expr} {x : Str} {scope : Scope} {cl : List (Str × Addr)} {Q : Value → Shared → Prop} {r : Addr} {a b st : Int} {tt uu vv : Tok} {news : List (Addr × Obj)} (n : Nat) (R : Int → Prop) (S : List (Addr × Obj) → Prop) (hS : S news) (hr : IsRange s.heap r a b st tt uu vv) (hsm : Builtin.Range.small a b st = true) (hrs : Builtin.Range.rangeSize a b st = (n : Int)) (hh : A.handled = none) (F : Fr h₀ L s.heap m) (N : News h₀ L s.heap news) (hsz : n ≤ sizeLine)
    (helt : ∀ i t I oI C oC D m₂ ys g tk nw (E' : Value → Shared → Prop), i < n → NsObj oC m₂ → m₂ x = some (.int (a + (i : Int) * st) t) → Fr h₀ L g m → News h₀ L g ((I, oI) :: (C, oC) :: (D, lst ys) :: nw) → Off3 I C D nw → ((@Ne Nat I C) ∧ (@Ne Nat I D) ∧ (@Ne Nat C D)) → S nw →
      ∀ s' : Shared, wpAny (model prog w) A (eval elt (compEnvC scope cl C env)) (CompEnd h₀ L m { s' with heap := g, toks := tk } I oI C oC D (lst ys) S (fun y _ => ∃ k t', y = .int k t' ∧ R k)) E' { s' with heap := g, toks := tk })
    (fin : ∀ D g tk vs ks nw, Fr h₀ L g m → News h₀ L g ((D, lst vs) :: nw) → Off1 D nw → S nw → IntsAre vs ks → ks.length = n → (∀ k ∈ ks, R k) → Q (.ref D) { s with heap := g, toks := tk }) :
    SrcW prog w A E h₀ L m env elt x scope cl Q (.ref r) s := by
  refine wpAny_pyIter_range hr hsm ?_
  rw [hrs]
  refine ⟨_, _, n, _, _, S, news, rfl, Walks.range hh _ a st n, hsz, ?_, ?_, ?_, ?_, F.push _, fun p hp => ⟨Heap.get?_push_of_some _ (N p hp).1, (N p hp).2⟩, Nat.ne_of_lt F.ns.lt, next_is_new F, fun p hp => Nat.ne_of_lt (Heap.lt_size (N p hp).1), hS, ?_⟩
  · intro i h ho
    exact ⟨_, ho⟩
  · intro i h h' o nw ho e1 e2 _ _ _
    have ho' : h.get? _ = some _ := ho
    show h'.get? _ = some _
    rw [e2, ← e1]; exact ho'
  · rw [show a + ((0 : Nat) : Int) * st = a by simp, show ((n : Int) - ((0 : Nat) : Int)) = (n : Int) by omega]
    exact Heap.get?_push_size _ rfl
  · intro c hc
    rw [List.mem_singleton.mp hc]
    show _ < (s.heap.push _).objs.size
    rw [Heap.size_push]; exact Nat.lt_succ_self _
  · refine effect_rest (n := n) R ?_ ?_ n 0 [] [] news (by omega) hS .nil rfl (fun _ h => nomatch h)
    · rintro i v I oI C oC D m₂ ys g tk nw E' hi ⟨u, rfl⟩ hC hx F' N' off ne hS'
      exact helt i u I oI C oC D m₂ ys g tk nw E' hi hC hx F' N' off ne hS' _
    · intro ys ks nw hS' hI hl hR D h tk F' N' o1
      exact fin D h tk ys ks nw F' N' o1 hS' hI hl hR
end
end Mine

-- W12
namespace Mine
local macro_rules | `(tactic| k_all) => `(tactic| with_reducible assumption)
theorem fits_long' {i : Int} (h : 0 ≤ i) (h' : i ≤ 1000000) : Builtin.Range.rangeFitsLong i = true := by
  unfold Builtin.Range.rangeFitsLong
  rw [Bool.and_eq_true, decide_eq_true_iff, decide_eq_true_iff]
  omega
theorem perm_news {h₀ h : Heap} {L : Addr} {a b c : Addr × Obj} {r : List (Addr × Obj)} (N : News h₀ L h (c :: a :: b :: r)) : News h₀ L h (a :: b :: c :: r) := fun p hp => N p (by
  rcases List.mem_cons.mp hp with rfl | hp
  · exact .tail _ (.head _)
  rcases List.mem_cons.mp hp with rfl | hp
  · exact .tail _ (.tail _ (.head _))
  rcases List.mem_cons.mp hp with rfl | hp
  · exact .head _
  · exact .tail _ (.tail _ (.tail _ hp)))
theorem perm_in {h₀ h : Heap} {L : Addr} {a b i c d : Addr × Obj} {r : List (Addr × Obj)} (N : News h₀ L h (i :: c :: d :: a :: b :: r)) : News h₀ L h (a :: b :: i :: c :: d :: r) := fun p hp => N p (by
  rcases List.mem_cons.mp hp with rfl | hp
  · exact .tail _ (.tail _ (.tail _ (.head _)))
  rcases List.mem_cons.mp hp with rfl | hp
  · exact .tail _ (.tail _ (.tail _ (.tail _ (.head _))))
  rcases List.mem_cons.mp hp with rfl | hp
  · exact .head _
  rcases List.mem_cons.mp hp with rfl | hp
  · exact .tail _ (.head _)
  rcases List.mem_cons.mp hp with rfl | hp
  · exact .tail _ (.tail _ (.head _))
  · exact .tail _ (.tail _ (.tail _ (.tail _ (.tail _ hp)))))
theorem perm_out {h₀ h : Heap} {L : Addr} {a b t i c d : Addr × Obj} {r : List (Addr × Obj)} (N : News h₀ L h (a :: b :: t :: i :: c :: d :: r)) : News h₀ L h (i :: c :: d :: a :: b :: r) := fun p hp => N p (by
  rcases List.mem_cons.mp hp with rfl | hp
  · exact .tail _ (.tail _ (.tail _ (.head _)))
  rcases List.mem_cons.mp hp with rfl | hp
  · exact .tail _ (.tail _ (.tail _ (.tail _ (.head _))))
  rcases List.mem_cons.mp hp with rfl | hp
  · exact .tail _ (.tail _ (.tail _ (.tail _ (.tail _ (.head _)))))
  rcases List.mem_cons.mp hp with rfl | hp
  · exact .head _
  rcases List.mem_cons.mp hp with rfl | hp
  · exact .tail _ (.head _)
  · exact .tail _ (.tail _ (.tail _ (.tail _ (.tail _ (.tail _ hp))))))
theorem fin_in {d a b c p : Addr × Obj} {r : List (Addr × Obj)} (h : p ∈ (a :: b :: r)) : p ∈ (d :: a :: b :: c :: r) := by
  rcases List.mem_cons.mp h with rfl | h
  · exact .tail _ (.head _)
  rcases List.mem_cons.mp h with rfl | h
  · exact .tail _ (.tail _ (.head _))
  · exact .tail _ (.tail _ (.tail _ (.tail _ h)))
theorem range_many {n : Nat} : Builtin.Range.rangeSize 0 (n : Int) 1 = (n : Int) := by
  unfold Builtin.Range.rangeSize
  rw [if_pos (by decide)]
  split <;> omega
theorem small_many {n : Nat} (hb : n ≤ 65536) : Builtin.Range.small 0 (n : Int) 1 = true := by
  unfold Builtin.Range.small
  rw [range_many, fits_long' (by decide) (by decide), fits_long' (by omega) (by omega), fits_long' (by decide) (by decide), fits_long' (by omega) (by omega), if_pos (by decide)]
  simp
theorem cell_ne {d sa ea : Addr} {rest : List (Addr × Obj)} (h : @LT.lt Nat _ sa d ∧ @LT.lt Nat _ ea d ∧ AllLt d rest) (ho : ∀ p ∈ rest, p.1 ≠ sa) (o : Obj) : ∀ p ∈ ((d + 1, o) :: rest : List (Addr × Obj)), p.1 ≠ sa := by
  intro p hp
  rcases List.mem_cons.mp hp with rfl | hp
  · exact Nat.ne_of_gt (Nat.lt_succ_of_lt h.1)
  · exact ho p hp
theorem cell_ne2 {d sa ea : Addr} {rest : List (Addr × Obj)} (h : @LT.lt Nat _ sa d ∧ @LT.lt Nat _ ea d ∧ AllLt d rest) (ho : ∀ p ∈ rest, p.1 ≠ ea) (o : Obj) : ∀ p ∈ ((d + 1, o) :: rest : List (Addr × Obj)), p.1 ≠ ea := by
  intro p hp
  rcases List.mem_cons.mp hp with rfl | hp
  · exact Nat.ne_of_gt (Nat.lt_succ_of_lt h.2.1)
  · exact ho p hp
theorem cell_of2 {h₀ h : Heap} {L c : Addr} {o : Obj} {v : Option Value} {r : List (Addr × Obj)} (N : News h₀ L h ((c, o) :: r)) (hd : o.data = .cell v) : h.IsCell c v := ⟨o, (N _ (.head _)).1, hd⟩
local macro_rules | `(tactic| walk_at $k) => if ["eval ListComp", "call type:bytes", "call ref"].contains k.getString then `(tactic| refine Stop.out ?_) else Lean.Macro.throwUnsupported
local macro_rules | `(tactic| walk_at "eval Name") => `(tactic| ((with_reducible show wpAny _ _ (eval _ (compEnvC _ _ _ _)) _ _ _); first | refine ldVarK (by assumption) (by with_reducible assumption) ?_ | k_dflt (refine ldFreeK rfl (by with_reducible assumption) ?_)))
section
variable {w : World} {p : Program} {loose : List Str} {mean : ExcName → Option Value} {mg mb : Str → Option Value}
theorem octets_tl (rest pre : List (Addr × Obj)) (sa ea : Addr) (tm : Tok) (many : Nat) (he : @Ne Nat ea sa) (ho : ∀ p ∈ rest, p.1 ≠ sa) (ho2 : ∀ p ∈ rest, p.1 ≠ ea) (hm : many ≤ 4096) (hS : SrcL sa ea rest pre) :
   TlU w p loose mean mg mb 110 pre [.ref sa, .int (many : Int) tm] 14 (fun post r => SrcL sa ea rest post ∧ ∃ b t', r = .bytes b t' ∧ (KBw.bInts b).length = many) := by
  obtain ⟨x, y, t0, t1, n, us, rs, n2, hx, hy, hR, hrl, rfl⟩ := hS
  w_top off
  unfold TlU
  k_fill
  intro dp un gd cn cs a ccd cl outer A₀ base h₀ L m s Q E B F X N T hkf hd hu hret
  refine wpAny_call ?_
  k_dflt (refine' code_defC ?k1 ?k2 ?k3 ?k4 ?k5 ?kA ?kF ?kK ?k6 ?k7 ?k8 ?k9 ?kB ?kD ?_ ?c2 ?c3 ?c4; (case kA => exact rfl); (case kF => exact rfl); (case kK => first | exact rfl | assumption); (case k1 => k_asm); (case k2 => k_asm); (case k3 => k_asm); (case k4 => k_asm); (case k5 => k_asm); (case k6 => k_is); (case k7 => k_is); (case k8 => ktr_room); (case k9 => exact BindsTo.of_eq rfl); (case kB => exact rfl); (case kD => decide +kernel); (case c2 => exact rfl); (case c3 => exact rfl); (case c4 => exact rfl); k_whole; intro g' L' h' tk' cells' FG' F' N' Y' B' X' T' l1; (try k_lt l1); k_cells Y'; (try simp only [List.cons_append, List.nil_append] at N'); (try dsimp only); (try k_lift B'); (try k_fold))
  k_steps
  refine Stop.in ?_
  k_dflt (refine comp_walk (by k_asm) (by with_unfolding_all rfl) (by decide) (by rfl) (by decide) (by rfl) ?_)
  k_steps
  with_reducible rename Fr _ _ _ _ => lF
  with_reducible rename News _ _ _ _ => lN
  rename IsRange _ _ _ _ _ _ _ _ => rgX
  have hcr := cell_ne (by assumption : @LT.lt Nat _ sa _ ∧ @LT.lt Nat _ ea _ ∧ AllLt _ rest) ho
  have hcr2 := cell_ne2 (by assumption : @LT.lt Nat _ sa _ ∧ @LT.lt Nat _ ea _ ∧ AllLt _ rest) ho2
  refine src_rangeE (news := (sa, srcO x y t0 t1 ea n) :: (ea, listOf us.toArray n2) :: _ :: rest) many (fun v => 0 ≤ v ∧ v < 256) (fun nw => SrcL sa ea (_ :: rest) nw) ⟨x, y, t0, t1, n, us, rs, n2, hx, hy, hR, hrl, rfl⟩ rgX ?small ?size (by rfl) lF (perm_news lN) (by rw [sizeLine_eq]; omega) ?helt ?fin
  case small => exact small_many (by omega)
  case size => exact range_many
  case helt =>
    rintro i tv I oI C oC D m₂ ys g tk9 nw E' hi hC hmx F8 N8 off ne ⟨x1, y1, t2, t3, n4, us1, rs1, n21, hx1, hy1, hR1, hrl1, rfl⟩ s'
    have hsrc := cell_of2 (fun p hp => N8 p (.tail _ (.tail _ (.tail _ (.tail _ (.tail _ hp)))))) (by assumption)
    have hns := hC.ns (N8 (C, oC) (.tail _ (.head _))).1
    have of1 := off.mem _ (.head _)
    have of2 := off.mem _ (.tail _ (.head _))
    k_steps
    refine Stop.in ?_
    refine' tlu_use ?k1 ?k2 ?k3 ?k4 ?k5 (take_tl _ _ sa ea _ 256 he ?ho1 ?ho2 (by decide) (by decide) ⟨x1, y1, t2, t3, n4, us1, rs1, n21, hx1, hy1, hR1, hrl1, rfl⟩) ?kK ?kd ?ku ?_
    case k1 => k_asm
    case k2 => k_asm
    case k3 => k_asm
    case k4 => exact perm_in N8
    case k5 => k_asm
    case ho1 => exact List.forall_mem_cons.mpr ⟨Ne.symm of1.1, List.forall_mem_cons.mpr ⟨Ne.symm of1.2.1, List.forall_mem_cons.mpr ⟨Ne.symm of1.2.2, hcr _⟩⟩⟩
    case ho2 => exact List.forall_mem_cons.mpr ⟨Ne.symm of2.1, List.forall_mem_cons.mpr ⟨Ne.symm of2.2.1, List.forall_mem_cons.mpr ⟨Ne.symm of2.2.2, hcr2 _⟩⟩⟩
    case kK => first | exact rfl | assumption
    case kd => ktr_room
    case ku => ktr_units
    rintro r9 post9 h9 tk8 F9 N9 ⟨⟨x9, y9, t09, t19, n9, us9, rs9, n29, hx9, hy9, hR9, hrl9, rfl⟩, v9, t9, rfl, hv0, hv1⟩
    clear N8 hsrc
    k_steps
    refine Stop.in ?_
    with_reducible rename News _ _ _ _ => lN3
    have lt3 := (by assumption : @LT.lt Nat _ sa _ ∧ @LT.lt Nat _ ea _ ∧ @LT.lt Nat _ I _ ∧ @LT.lt Nat _ C _ ∧ @LT.lt Nat _ D _ ∧ _ ∧ AllLt _ rest)
    refine tlu_use (by k_asm) (by k_asm) (by k_asm) (perm_news lN3) (by k_asm) (one_tl _ _ sa ea _ _ _ [0, 255, 128, v9] he (Nat.ne_of_gt lt3.1) (Nat.ne_of_gt lt3.2.1) ?ho1 ?ho2 (.cons _ _ (.cons _ _ (.cons _ _ (.cons _ _ .nil)))) (by show 0 < 4; decide) (by show 4 ≤ 256; decide) ⟨x9, y9, t09, t19, n9, us9, rs9, n29, hx9, hy9, hR9, hrl9, rfl⟩) (by first | exact rfl | assumption) (by ktr_room) (by ktr_units) ?ret
    case ho1 => exact List.forall_mem_cons.mpr ⟨Ne.symm of1.1, List.forall_mem_cons.mpr ⟨Ne.symm of1.2.1, List.forall_mem_cons.mpr ⟨Ne.symm of1.2.2, hcr _⟩⟩⟩
    case ho2 => exact List.forall_mem_cons.mpr ⟨Ne.symm of2.1, List.forall_mem_cons.mpr ⟨Ne.symm of2.2.1, List.forall_mem_cons.mpr ⟨Ne.symm of2.2.2, hcr2 _⟩⟩⟩
    rintro r9 post9 h8 tk7 F7 N7 ⟨⟨x8, y8, t08, t18, n8, us8, rs8, n28, hx8, hy8, hR8, hrl8, rfl⟩, v8, t8, rfl, hvm⟩
    k_steps
    refine PyProof.Rows.LCg.CompEnd.intro (by k_asm) (perm_out N7) _ (fun p hp => hp) ⟨off.1, off.2.1, off.2.2⟩ ⟨x8, y8, t08, t18, n8, us8, rs8, n28, hx8, hy8, hR8, hrl8, rfl⟩ ⟨v8, t8, rfl, ?_⟩
    simp only [List.mem_cons, List.not_mem_nil, or_false] at hvm
    rcases hvm with rfl | rfl | rfl | rfl
    · decide
    · decide
    · decide
    · exact ⟨hv0, hv1⟩
  case fin =>
    rintro D g tk9 vs ks nw F8 N8 o1 ⟨x8, y8, t08, t18, n8, us8, rs8, n28, hx8, hy8, hR8, hrl8, rfl⟩ hI hl hR
    k_steps
    refine Stop.in ?_
    refine KBa.make_K F8 N8 (by rfl) (News.isList N8 (.head _)) hI (fun k hk => hR k hk) (by rw [hl]; omega) ?_
    intro h8 t8 k8 F9 N9 i8
    have e8 := KBa.ints_make i8
    k_steps
    with_reducible rename News _ _ _ _ => lN3
    exact hret _ _ _ _ (by k_asm) (fun p hp => lN3 p (fin_in hp)) ⟨⟨x8, y8, t08, t18, n8, us8, rs8, n28, hx8, hy8, hR8, hrl8, rfl⟩, _, _, rfl, by rw [e8, hl]⟩
end
end Mine

-- LA
namespace Mine
theorem pre3 {h₀ h : Heap} {L : Addr} {a b c : Addr × Obj} {r : List (Addr × Obj)} (N : News h₀ L h r) (ha : a ∈ r) (hb : b ∈ r) (hc : c ∈ r) : News h₀ L h [a, b, c] := fun p hp => N p (by
  simp only [List.mem_cons, List.not_mem_nil, or_false] at hp
  rcases hp with rfl | rfl | rfl <;> assumption)
theorem pre2 {h₀ h : Heap} {L : Addr} {a b : Addr × Obj} {r : List (Addr × Obj)} (N : News h₀ L h r) (ha : a ∈ r) (hb : b ∈ r) : News h₀ L h [a, b] := fun p hp => N p (by
  simp only [List.mem_cons, List.not_mem_nil, or_false] at hp
  rcases hp with rfl | rfl <;> assumption)
theorem fmod_nn {a b : Int} (h : 0 < b) : 0 ≤ a.fmod b := by
  rw [Int.fmod_eq_emod_of_nonneg _ (by omega)]
  exact Int.emod_nonneg _ (by omega)
theorem big_nn (c : Int) (b : Bool) : 0 ≤ (if -1 - c > c then -1 - c else c) * (if b = true then 1 else 0) := by
  refine Int.mul_nonneg ?_ ?_
  · split <;> omega
  · split <;> decide
theorem ints_12 {a0 a1 a2 a3 a4 a5 a6 a7 a8 a9 a10 a11 : Int} {t0 t1 t2 t3 t4 t5 t6 t7 t8 t9 t10 t11 : Tok} : IntsAre [.int a0 t0, .int a1 t1, .int a2 t2, .int a3 t3, .int a4 t4, .int a5 t5, .int a6 t6, .int a7 t7, .int a8 t8, .int a9 t9, .int a10 t10, .int a11 t11] [a0, a1, a2, a3, a4, a5, a6, a7, a8, a9, a10, a11] := .cons _ _ (.cons _ _ (.cons _ _ (.cons _ _ (.cons _ _ (.cons _ _ (.cons _ _ (.cons _ _ (.cons _ _ (.cons _ _ (.cons _ _ (.cons _ _ (.nil))))))))))))
theorem ints_4 {a0 a1 a2 a3 : Int} {t0 t1 t2 t3 : Tok} : IntsAre [.int a0 t0, .int a1 t1, .int a2 t2, .int a3 t3] [a0, a1, a2, a3] := .cons _ _ (.cons _ _ (.cons _ _ (.cons _ _ (.nil))))
theorem ints_7 {a0 a1 a2 a3 a4 a5 a6 : Int} {t0 t1 t2 t3 t4 t5 t6 : Tok} : IntsAre [.int a0 t0, .int a1 t1, .int a2 t2, .int a3 t3, .int a4 t4, .int a5 t5, .int a6 t6] [a0, a1, a2, a3, a4, a5, a6] := .cons _ _ (.cons _ _ (.cons _ _ (.cons _ _ (.cons _ _ (.cons _ _ (.cons _ _ (.nil)))))))
theorem abc_dig : dig [97, 98, 99] = [144, 1, 80, 152, 60, 210, 79, 176, 214, 150, 63, 125, 40, 225, 127, 114] := by decide +kernel
theorem bInts_inj {b c : Array UInt8} (h : KBw.bInts b = KBw.bInts c) : b.toList = c.toList := by
  unfold KBw.bInts at h
  generalize b.toList = x at h
  generalize c.toList = y at h
  induction x generalizing y with
  | nil => cases y with
    | nil => rfl
    | cons _ _ => cases h
  | cons a x ih => cases y with
    | nil => cases h
    | cons d y =>
      rw [List.map_cons, List.map_cons] at h
      injection h with h1 h2
      rw [ih _ h2, UInt8.toNat_inj.mp (Int.ofNat.inj h1)]
theorem ne_same {b c : Array UInt8} {ks : List Int} (h : KBw.bInts b = ks) (h' : KBw.bInts c = ks) : (b.toList != c.toList) = false := by
  rw [bInts_inj (h.trans h'.symm)]
  simp
theorem eq_same {b c : Array UInt8} {ks : List Int} (h : KBw.bInts b = ks) (h' : KBw.bInts c = ks) : (b.toList == c.toList) = true := by
  rw [bInts_inj (h.trans h'.symm)]
  simp
theorem law_due_tl' {w : World} {p : Program} {loose : List Str} {mean : ExcName → Option Value} {mg mb : Str → Option Value} (news : List (Addr × Obj)) (bb : Array UInt8) (t : Tok) (ks : List Int) (hk : KBw.bInts bb = ks) (hl : ks.length ≤ 4096) :
   Tl w p loose mean mg mb 105 news [.bytes bb t] 3 (fun tl r => tl = [] ∧ ∃ b' t', r = .bytes b' t' ∧ KBw.bInts b' = dig ks) :=
  law_due_tl news bb t ks hk hl (by rw [padL_len, blocks_eq]) (by rw [padL_len]; unfold fillN; omega)
end Mine

-- LB
namespace Mine
def PoolAt (h₀ : Heap) (L : Addr) (m : Str → Option Value) (s : Shared) (v : Value) (s' : Shared) : Prop := ∃ (sa ea : Addr) (pre : List (Addr × Obj)) (h' : Heap) (tk' : Nat), v = .ref sa ∧ s' = { s with heap := h', toks := tk' } ∧ Fr h₀ L h' m ∧ News h₀ L h' pre ∧ SrcL sa ea [] pre ∧ (@Ne Nat ea sa)
def MenuAt (h₀ : Heap) (L : Addr) (m : Str → Option Value) (news : List (Addr × Obj)) (s : Shared) (v : Value) (s' : Shared) : Prop := ∃ (ta : Addr) (n : Nat) (us : List Value) (ns : List Int) (h' : Heap) (tk' : Nat), v = .ref ta ∧ s' = { s with heap := h', toks := tk' } ∧ Fr h₀ L h' m ∧ News h₀ L h' ((ta, listOf us.toArray n) :: news) ∧ IntsAre us ns ∧ 0 < ns.length ∧ ns.length ≤ 256 ∧ (∀ v ∈ ns, 0 ≤ v ∧ v ≤ 130) ∧ ∀ p ∈ news, @LT.lt Nat _ p.1 ta
section
variable {M : Model} {A : Around} {t : Sem Value} {Q E : Value → Shared → Prop} {s : Shared} {h₀ : Heap} {L : Addr} {m : Str → Option Value} {news : List (Addr × Obj)}
theorem pool_cut (_ : Fr h₀ L s.heap m) (h : wpAny M A t (PoolAt h₀ L m s) E s) (k : ∀ sa ea pre h' tk', SrcL sa ea [] pre → (@Ne Nat ea sa) → Fr h₀ L h' m → News h₀ L h' pre → Q (.ref sa) { s with heap := h', toks := tk' }) : wpAny M A t Q E s :=
  wpAny_mono h (fun _ _ ⟨sa, ea, pre, h', tk', e1, e2, F, N, S, o⟩ => by subst e1 e2; exact k sa ea pre h' tk' S o F N) fun _ _ e => e
theorem menu_cut (_ : Fr h₀ L s.heap m) (_ : News h₀ L s.heap news) (h : wpAny M A t (MenuAt h₀ L m news s) E s) (k : ∀ ta n us ns h' tk', IntsAre us ns → 0 < ns.length → ns.length ≤ 256 → (∀ v ∈ ns, 0 ≤ v ∧ v ≤ 130) → (∀ p ∈ news, @LT.lt Nat _ p.1 ta) → Fr h₀ L h' m → News h₀ L h' ((ta, listOf us.toArray n) :: news) → Q (.ref ta) { s with heap := h', toks := tk' }) : wpAny M A t Q E s :=
  wpAny_mono h (fun _ _ ⟨ta, n, us, ns, h', tk', e1, e2, F, N, i, a, b, c, o⟩ => by subst e1 e2; exact k ta n us ns h' tk' i a b c o F N) fun _ _ e => e
end
theorem menu_nat {v : Int} (h : 0 ≤ v ∧ v ≤ 130) : ∃ n : Nat, v = (n : Int) ∧ n ≤ 130 := ⟨v.toNat, by omega, by omega⟩
theorem if_ff {p q : Prop} (h : q) : if false = true then p else q := by rw [if_neg Bool.false_ne_true]; exact h
theorem lt2 {a b : Addr × Obj} {d : Addr} (h : @LT.lt Nat _ a.1 d ∧ @LT.lt Nat _ b.1 d) : ∀ p ∈ [a, b], @LT.lt Nat _ p.1 d := List.forall_mem_cons.mpr ⟨h.1, List.forall_mem_cons.mpr ⟨h.2, fun _ h => nomatch h⟩⟩
local macro_rules | `(tactic| k_all) => `(tactic| with_reducible assumption)
local macro_rules | `(tactic| kba_size) => `(tactic| omega)
local macro_rules | `(tactic| walk_at $k) => if ["compareOp NotEq ref ref", "compareOp Eq ref ref", "compareOp NotEq bytes bytes", "compareOp Eq bytes bytes", "call ref", "eval IfExp", "call type:bytes", "binaryOp Add bytes bytes", "eval ListComp"].contains k.getString then `(tactic| ((fail_if_success (with_reducible show wpAny _ _ _ (PoolAt _ _ _ _) _ _)); refine Stop.out ?_)) else Lean.Macro.throwUnsupported
local macro_rules | `(tactic| walk_at "call builtin:len") => `(tactic| ((with_reducible show wpAny _ _ (call _ [Value.bytes _ _]) _ _ _); (refine KBw.len_K (by with_reducible assumption) (by omega) ?_)))
local macro_rules | `(tactic| walk_at "ite") => `(tactic| with_reducible refine if_ff ?_)
theorem known_in : KBa.In [144, 1, 80, 152, 60, 210, 79, 176, 214, 150, 63, 125, 40, 225, 127, 114] := by unfold KBa.In; decide
theorem abc_ints : KBw.bInts #[97, 98, 99] = [97, 98, 99] := by decide
theorem ints_16 {a0 a1 a2 a3 a4 a5 a6 a7 a8 a9 a10 a11 a12 a13 a14 a15 : Int} {t0 t1 t2 t3 t4 t5 t6 t7 t8 t9 t10 t11 t12 t13 t14 t15 : Tok} : IntsAre [.int a0 t0, .int a1 t1, .int a2 t2, .int a3 t3, .int a4 t4, .int a5 t5, .int a6 t6, .int a7 t7, .int a8 t8, .int a9 t9, .int a10 t10, .int a11 t11, .int a12 t12, .int a13 t13, .int a14 t14, .int a15 t15] [a0, a1, a2, a3, a4, a5, a6, a7, a8, a9, a10, a11, a12, a13, a14, a15] := .cons _ _ (.cons _ _ (.cons _ _ (.cons _ _ (.cons _ _ (.cons _ _ (.cons _ _ (.cons _ _ (.cons _ _ (.cons _ _ (.cons _ _ (.cons _ _ (.cons _ _ (.cons _ _ (.cons _ _ (.cons _ _ (.nil))))))))))))))))
theorem law_holds : PySem.Challenge.rw_pc0356_01.Holds := by
  refine hd ?_
  k_go0
  all_goals try k_fold
  rename List Int => sc
  k_steps
  refine Stop.in ?_
  refine pool_cut (by k_asm) ?_ ?_
  · rcases (List.eq_nil_or_concat sc) with hsc | ⟨_, _, hsc⟩
    · have hz : sc.length = 0 := by rw [hsc]; rfl
      k_steps
      refine Stop.in ?_
      refine IfExp_ ?_
      k_steps
      refine Stop.in ?_
      k_dflt (refine ke_ne_ints (by is_list) (by is_list) (by l_ints) (by l_ints) (by ke_room) ?_)
      rw [decide_eq_true hsc]
      k_steps
      refine Stop.in ?_
      refine IfExp_ ?_
      k_steps
      refine Stop.in ?_
      k_dflt (refine ke_eq_ints (by is_list) (by is_list) (by l_ints) (by l_ints) (by ke_room) ?_)
      rw [decide_eq_true hsc]
      k_steps
      exact ⟨_, _, _, _, _, rfl, rfl, by k_asm, pre2 (by k_asm) (by k_mem) (by k_mem), ⟨_, _, _, _, _, [.int 0 _, .int 1 _, .int 7 _, .int 0 _, .int 9 _, .int 1 _, .int 0 _], [0, 1, 7, 0, 9, 1, 0], _, by first | exact big_nn _ _ | decide, by first | exact fmod_nn (by decide) | decide, ints_7, by decide, rfl⟩, by omega⟩
    · have hne : ¬ (sc = []) := by rw [hsc]; simp
      have hpos : 0 < sc.length := List.length_pos_iff.mpr hne
      clear hsc
      k_steps
      refine Stop.in ?_
      refine IfExp_ ?_
      k_steps
      refine Stop.in ?_
      k_dflt (refine ke_ne_ints (by is_list) (by is_list) (by l_ints) (by l_ints) (by ke_room) ?_)
      rw [decide_eq_false hne]
      k_steps
      refine Stop.in ?_
      refine IfExp_ ?_
      k_steps
      refine Stop.in ?_
      k_dflt (refine ke_eq_ints (by is_list) (by is_list) (by l_ints) (by l_ints) (by ke_room) ?_)
      rw [decide_eq_false hne]
      k_steps
      exact ⟨_, _, _, _, _, rfl, rfl, by k_asm, pre2 (by k_asm) (by k_mem) (by k_mem), ⟨_, _, _, _, _, [], [], _, big_nn _ _, fmod_nn (by decide), .nil, by decide, rfl⟩, by omega⟩
  rintro sa ea pre h9 tk9 ⟨x8, y8, t08, t18, n8, us8, rs8, q8, hx8, hy8, hR8, hrl8, rfl⟩ hes F9 N9
  k_steps
  refine Stop.in ?_
  refine menu_cut (by k_asm) (by k_asm) ?_ ?_
  · refine IfExp_ ?_
    k_steps
    · exact ⟨_, _, _, _, _, _, rfl, rfl, by k_asm, by k_asm, ints_12, by decide, by decide, by decide, lt2 (by assumption)⟩
    · exact ⟨_, _, _, _, _, _, rfl, rfl, by k_asm, by k_asm, ints_4, by decide, by decide, by decide, lt2 (by assumption)⟩
  intro ta n7 us7 ns7 h9 tk9 hI7 hl1 hl2 hbd hlt F9 N9
  have lt7 := hlt _ (.head _)
  have lt6 := hlt _ (.tail _ (.head _))
  dsimp only at lt7 lt6
  clear hlt
  k_steps
  refine Stop.in ?_
  k_dflt (refine tlu_use (by k_asm) (by k_asm) (by k_asm) (pre3 (by k_asm) (by k_mem) (by k_mem) (by k_mem)) (by k_asm) (one_tl [] _ _ _ _ _ _ ns7 (by omega) (by omega) (by omega) (fun _ h => nomatch h) (fun _ h => nomatch h) hI7 hl1 hl2 ⟨x8, y8, t08, t18, n8, us8, rs8, q8, hx8, hy8, hR8, hrl8, rfl⟩) (by first | exact rfl | assumption) (by ktr_room) (by ktr_units) ?_)
  rintro r9 post9 h9 tk9 F9 N9 ⟨⟨x9, y9, t09, t19, n9, us9, rs9, q9, hx9, hy9, hR9, hrl9, rfl⟩, v9, t9, rfl, hvm⟩
  obtain ⟨m9, rfl, hm9⟩ := menu_nat (hbd _ hvm)
  clear hvm
  k_steps
  refine Stop.in ?_
  k_dflt (refine tlu_use (by k_asm) (by k_asm) (by k_asm) (pre2 (by k_asm) (by k_mem) (by k_mem)) (by k_asm) (octets_tl [] _ _ _ _ _ (by omega) (fun _ h => nomatch h) (fun _ h => nomatch h) (by omega) ⟨x9, y9, t09, t19, n9, us9, rs9, q9, hx9, hy9, hR9, hrl9, rfl⟩) (by first | exact rfl | assumption) (by ktr_room) (by ktr_units) ?_)
  rintro r9 post9 h9 tk9 F9 N9 ⟨⟨xa, ya, t0a, t1a, na, usa, rsa, qa, hxa, hya, hRa, hrla, rfl⟩, b0, tb0, rfl, hlb0⟩
  obtain ⟨ko, hko⟩ : ∃ ks, KBw.bInts b0 = ks := ⟨_, rfl⟩
  rw [hko] at hlb0
  k_steps
  refine Stop.in ?_
  k_dflt (refine tl_use (by k_asm) (by k_asm) (by k_asm) (by k_asm) (by k_asm) (md5_tl _ _ _ _ hko (by omega)) (by first | exact rfl | assumption) (by ktr_room) (by ktr_units) ?_)
  rintro r9 tl9 h9 tk9 F9 N9 o9 ⟨rfl, b1, tb1, rfl, i1⟩
  clear o9
  simp only [List.nil_append] at N9
  k_steps
  refine Stop.in ?_
  k_dflt (refine tl_use (by k_asm) (by k_asm) (by k_asm) (by k_asm) (by k_asm) (law_due_tl' _ _ _ _ hko (by omega)) (by first | exact rfl | assumption) (by ktr_room) (by ktr_units) ?_)
  rintro r9 tl9 h9 tk9 F9 N9 o9 ⟨rfl, b2, tb2, rfl, i2⟩
  clear o9
  simp only [List.nil_append] at N9
  k_steps
  refine Stop.in ?_
  refine ne_bytes ?_
  rw [ne_same i1 i2]
  clear i1 i2
  k_steps
  refine Stop.in ?_
  k_dflt (refine tl_use (by k_asm) (by k_asm) (by k_asm) (by k_asm) (by k_asm) (md5_tl _ _ _ _ abc_ints (by decide)) (by first | exact rfl | assumption) (by ktr_room) (by ktr_units) ?_)
  rintro r9 tl9 h9 tk9 F9 N9 o9 ⟨rfl, b1, tb1, rfl, i1⟩
  clear o9
  simp only [List.nil_append] at N9
  rw [abc_dig] at i1
  k_steps
  refine Stop.in ?_
  k_dflt (refine KBa.make_K (by k_asm) (by k_asm) (by rfl) (News.isList (by k_asm) (by k_mem)) ints_16 known_in (by decide) ?_)
  intro h8 t8 k8 F8 N8 i8
  have i2 := KBa.ints_make i8
  k_steps
  refine Stop.in ?_
  refine ne_bytes ?_
  rw [ne_same i1 i2]
  clear i1 i2 i8
  k_steps
  refine Stop.in ?_
  k_dflt (refine tlu_use (by k_asm) (by k_asm) (by k_asm) (pre3 (by k_asm) (by k_mem) (by k_mem) (by k_mem)) (by k_asm) (one_tl [] _ _ _ _ _ _ [0, 1, 16, 63, 64, 65, 70] (by omega) (by omega) (by omega) (fun _ h => nomatch h) (fun _ h => nomatch h) ints_7 (by decide) (by decide) ⟨xa, ya, t0a, t1a, na, usa, rsa, qa, hxa, hya, hRa, hrla, rfl⟩) (by first | exact rfl | assumption) (by ktr_room) (by ktr_units) ?_)
  rintro r9 post9 h9 tk9 F9 N9 ⟨⟨xb, yb, t0b, t1b, nb, usb, rsb, qb, hxb, hyb, hRb, hrlb, rfl⟩, vb, tb, rfl, hvm⟩
  obtain ⟨mb, rfl, hmb⟩ := menu_nat ((by decide : ∀ v ∈ ([0, 1, 16, 63, 64, 65, 70] : List Int), 0 ≤ v ∧ v ≤ 130) _ hvm)
  clear hvm
  k_steps
  refine Stop.in ?_
  k_dflt (refine tlu_use (by k_asm) (by k_asm) (by k_asm) (pre2 (by k_asm) (by k_mem) (by k_mem)) (by k_asm) (octets_tl [] _ _ _ _ _ (by omega) (fun _ h => nomatch h) (fun _ h => nomatch h) (by omega) ⟨xb, yb, t0b, t1b, nb, usb, rsb, qb, hxb, hyb, hRb, hrlb, rfl⟩) (by first | exact rfl | assumption) (by ktr_room) (by ktr_units) ?_)
  rintro r9 post9 h9 tk9 F9 N9 ⟨⟨xc, yc, t0c, t1c, nc, usc, rsc, qc, hxc, hyc, hRc, hrlc, rfl⟩, bk, tbk, rfl, hlbk⟩
  obtain ⟨kk, hkk⟩ : ∃ ks, KBw.bInts bk = ks := ⟨_, rfl⟩
  rw [hkk] at hlbk
  k_steps
  refine Stop.in ?_
  refine held_cut kk (by k_asm) (by k_asm) ?_ ?_
  · refine IfExp_ ?_
    k_steps
    · refine Stop.in ?_
      k_dflt (refine tl_use (by k_asm) (by k_asm) (by k_asm) (by k_asm) (by k_asm) (law_due_tl' _ _ _ _ hkk (by omega)) (by first | exact rfl | assumption) (by ktr_room) (by ktr_units) ?_)
      rintro r9 tl9 h9 tk9 F9 N9 o9 ⟨rfl, bh, tbh, rfl, ih⟩
      clear o9
      simp only [List.nil_append] at N9
      k_steps
      exact ⟨_, _, _, _, rfl, rfl, by k_asm, by k_asm, ih.trans (if_pos (by omega)).symm⟩
    · exact ⟨_, _, _, _, rfl, rfl, by k_asm, by k_asm, hkk.trans (if_neg (by omega)).symm⟩
  intro bh tbh h9 tk9 ih F9 N9
  have d1 := hold_len kk
  k_steps
  refine Stop.in ?_
  refine call_bytes_int (n := 64 - (hold kk).length) (by omega) (by omega) ?_
  intro t7 k7 hz7
  k_steps
  refine Stop.in ?_
  refine KBa.add_K (by with_reducible assumption) (by with_reducible assumption) (by simp only [List.length_append, List.length_replicate, xorL_len, dig_len]; omega) ?_
  intro _ _ kbaApp
  k_steps
  refine Stop.in ?_
  k_dflt (refine xor_comp 54 (by decide) (by k_asm) (by with_unfolding_all rfl) (by decide) (by rfl) (by decide) (by rfl) (by decide) ?_)
  k_steps
  refine XSrc.mk (by with_reducible assumption) (by rfl) (by k_asm) (by k_asm) (by first | omega | ((simp only [List.length_append, List.length_replicate, xorL_len, dig_len]); omega)) ?_
  intro D8 g8 k8 vs8 F8 N8 hI8
  k_steps
  refine Stop.in ?_
  k_dflt (refine KBa.make_K (by k_asm) (by k_asm) (by rfl) (News.isList (by k_asm) (by k_mem)) hI8 (xorL_in (by decide) (in_bytes (by with_reducible assumption))) (by simp only [List.length_append, List.length_replicate, xorL_len, dig_len]; omega) ?_)
  intro h8 t8 k8 F8 N8 i8
  have e54 := KBa.ints_make i8
  clear i8 hI8
  k_steps
  refine Stop.in ?_
  refine KBa.add_K (by with_reducible assumption) (by with_reducible assumption) (by simp only [List.length_append, List.length_replicate, xorL_len, dig_len]; omega) ?_
  intro _ _ kbaApp
  k_steps
  refine Stop.in ?_
  k_dflt (refine tl_use (by k_asm) (by k_asm) (by k_asm) (by k_asm) (by k_asm) (law_due_tl' _ _ _ _ (by with_reducible assumption) (by simp only [List.length_append, List.length_replicate, xorL_len, dig_len]; omega)) (by first | exact rfl | assumption) (by ktr_room) (by ktr_units) ?_)
  rintro r9 tl9 h9 tk9 F9 N9 o9 ⟨rfl, bi, tbi, rfl, ii⟩
  clear o9
  simp only [List.nil_append] at N9
  k_steps
  refine Stop.in ?_
  k_dflt (refine tl_use (by k_asm) (by k_asm) (by k_asm) (by k_asm) (by k_asm) (with_key_tl _ _ _ _ _ _ _ hkk hko (by omega) (by omega)) (by first | exact rfl | assumption) (by ktr_room) (by ktr_units) ?_)
  rintro r9 tl9 h9 tk9 F9 N9 o9 ⟨rfl, bm, tbm, rfl, im⟩
  clear o9
  simp only [List.nil_append] at N9
  k_steps
  refine Stop.in ?_
  k_dflt (refine xor_comp 92 (by decide) (by k_asm) (by with_unfolding_all rfl) (by decide) (by rfl) (by decide) (by rfl) (by decide) ?_)
  k_steps
  refine XSrc.mk (by with_reducible assumption) (by rfl) (by k_asm) (by k_asm) (by first | omega | ((simp only [List.length_append, List.length_replicate, xorL_len, dig_len]); omega)) ?_
  intro D8 g8 k8 vs8 F8 N8 hI8
  k_steps
  refine Stop.in ?_
  k_dflt (refine KBa.make_K (by k_asm) (by k_asm) (by rfl) (News.isList (by k_asm) (by k_mem)) hI8 (xorL_in (by decide) (in_bytes (by with_reducible assumption))) (by simp only [List.length_append, List.length_replicate, xorL_len, dig_len]; omega) ?_)
  intro h8 t8 k8 F8 N8 i8
  have e92 := KBa.ints_make i8
  clear i8 hI8
  k_steps
  refine Stop.in ?_
  refine KBa.add_K (by with_reducible assumption) (by with_reducible assumption) (by simp only [List.length_append, List.length_replicate, xorL_len, dig_len]; omega) ?_
  intro _ _ kbaApp
  k_steps
  refine Stop.in ?_
  k_dflt (refine tl_use (by k_asm) (by k_asm) (by k_asm) (by k_asm) (by k_asm) (law_due_tl' _ _ _ _ (by with_reducible assumption) (by simp only [List.length_append, List.length_replicate, xorL_len, dig_len]; omega)) (by first | exact rfl | assumption) (by ktr_room) (by ktr_units) ?_)
  rintro r9 tl9 h9 tk9 F9 N9 o9 ⟨rfl, bj, tbj, rfl, ij⟩
  clear o9
  simp only [List.nil_append] at N9
  k_steps
  refine Stop.in ?_
  refine eq_bytes ?_
  rw [eq_same im ij]
  k_steps
end Mine

theorem PySem.Challenge.cw_pc0356_01_holds : PySem.Challenge.rw_pc0356_01.Holds :=
  Mine.law_holds
#print axioms PySem.Challenge.cw_pc0356_01_holds
