import PyProof.Rows.All
import Wide.All
import OpenK.AllK
import Wide.FinOn
import PySem.Challenge.RW_nt0100_01
open PySem PySem.W PyProof.Rows PySem.Spec PySem.Calls
set_option Elab.async false
set_option maxRecDepth 100000
namespace Mine
def wordOf (n : Int) : Int := if n.fmod 18446744073709551616 ≥ 9223372036854775808 then n.fmod 18446744073709551616 - 18446744073709551616 else n.fmod 18446744073709551616
/-- the sum of the low k bits' products, and of their maxima -/
def lowAnd (a b : Int) : Nat → Int
  | 0 => 0
  | k + 1 => lowAnd a b k + (a.fdiv (2 ^ k)).fmod 2 * (b.fdiv (2 ^ k)).fmod 2 * 2 ^ k
def lowOr (a b : Int) : Nat → Int
  | 0 => 0
  | k + 1 => lowOr a b k + (if (b.fdiv (2 ^ k)).fmod 2 > (a.fdiv (2 ^ k)).fmod 2 then (b.fdiv (2 ^ k)).fmod 2 else (a.fdiv (2 ^ k)).fmod 2) * 2 ^ k
theorem two_pos (k : Nat) : (0 : Int) < 2 ^ k := Int.pow_pos (by decide)
/-- the bit at place k -/
theorem bit_eq (a : Int) (k : Nat) : (a.fdiv (2 ^ k)).fmod 2 = a / 2 ^ k % 2 := by
  rw [Int.fdiv_eq_ediv_of_nonneg a (Int.le_of_lt (two_pos k)), Int.fmod_eq_emod_of_nonneg _ (by decide)]
theorem bit_succ (a : Int) (k : Nat) : a / 2 ^ (k + 1) % 2 = a / 2 / 2 ^ k % 2 := by
  rw [Int.pow_succ, Int.mul_comm, ← Int.ediv_ediv_of_nonneg (by decide)]
theorem bit_01 (a : Int) (k : Nat) : a / 2 ^ k % 2 = 0 ∨ a / 2 ^ k % 2 = 1 := by omega
theorem lowAnd_half (a b : Int) : ∀ k, lowAnd a b (k + 1) = 2 * lowAnd (a / 2) (b / 2) k + (a % 2) * (b % 2)
  | 0 => by
    show lowAnd a b 0 + (a.fdiv (2 ^ 0)).fmod 2 * (b.fdiv (2 ^ 0)).fmod 2 * 2 ^ 0 = _
    rw [bit_eq, bit_eq]
    simp [lowAnd]
  | k + 1 => by
    show lowAnd a b (k + 1) + (a.fdiv (2 ^ (k + 1))).fmod 2 * (b.fdiv (2 ^ (k + 1))).fmod 2 * 2 ^ (k + 1) = 2 * (lowAnd (a / 2) (b / 2) k + ((a / 2).fdiv (2 ^ k)).fmod 2 * ((b / 2).fdiv (2 ^ k)).fmod 2 * 2 ^ k) + _
    rw [lowAnd_half a b k, bit_eq, bit_eq, bit_eq, bit_eq, bit_succ, bit_succ, Int.pow_succ, Int.mul_add, ← Int.mul_assoc]
    generalize a / 2 / 2 ^ k % 2 * (b / 2 / 2 ^ k % 2) * 2 ^ k = z
    omega
theorem lowOr_half (a b : Int) : ∀ k, lowOr a b (k + 1) = 2 * lowOr (a / 2) (b / 2) k + (if b % 2 > a % 2 then b % 2 else a % 2)
  | 0 => by
    show lowOr a b 0 + (if (b.fdiv (2 ^ 0)).fmod 2 > (a.fdiv (2 ^ 0)).fmod 2 then (b.fdiv (2 ^ 0)).fmod 2 else (a.fdiv (2 ^ 0)).fmod 2) * 2 ^ 0 = _
    rw [bit_eq, bit_eq]
    simp [lowOr]
  | k + 1 => by
    show lowOr a b (k + 1) + (if (b.fdiv (2 ^ (k + 1))).fmod 2 > (a.fdiv (2 ^ (k + 1))).fmod 2 then (b.fdiv (2 ^ (k + 1))).fmod 2 else (a.fdiv (2 ^ (k + 1))).fmod 2) * 2 ^ (k + 1) =
      2 * (lowOr (a / 2) (b / 2) k + (if ((b / 2).fdiv (2 ^ k)).fmod 2 > ((a / 2).fdiv (2 ^ k)).fmod 2 then ((b / 2).fdiv (2 ^ k)).fmod 2 else ((a / 2).fdiv (2 ^ k)).fmod 2) * 2 ^ k) + _
    rw [lowOr_half a b k, bit_eq, bit_eq, bit_eq, bit_eq, bit_succ, bit_succ, Int.pow_succ, Int.mul_add, ← Int.mul_assoc]
    generalize (if b / 2 / 2 ^ k % 2 > a / 2 / 2 ^ k % 2 then b / 2 / 2 ^ k % 2 else a / 2 / 2 ^ k % 2) * 2 ^ k = z
    omega
theorem mod_double {P X c : Int} (hP : 0 < P) (h0 : 0 ≤ c) (h1 : c ≤ 1) : (2 * X + c) % (P * 2) = 2 * (X % P) + c := by
  have e := Int.emod_add_mul_ediv X P
  have a := Int.emod_nonneg X (show P ≠ 0 by omega)
  have b := Int.emod_lt_of_pos X hP
  refine (kbt_unique (q := X / P) (by omega) ?_ (by omega) (by omega)).2
  have e2 : P * 2 * (X / P) = 2 * (P * (X / P)) := by rw [Int.mul_comm P 2, Int.mul_assoc]
  rw [e2]
  omega
theorem or_halves (a b : Int) : Builtin.bitOr a b = 2 * Builtin.bitOr (a / 2) (b / 2) + (if b % 2 > a % 2 then b % 2 else a % 2) := by
  rw [bitOr_and, bitOr_and, kbt_halves a b]
  have ha : a % 2 = 0 ∨ a % 2 = 1 := by omega
  have hb : b % 2 = 0 ∨ b % 2 = 1 := by omega
  rcases ha with ha | ha <;> rcases hb with hb | hb <;> simp [ha, hb] <;> omega
theorem and_halves (a b : Int) : Builtin.bitAnd a b = 2 * Builtin.bitAnd (a / 2) (b / 2) + (a % 2) * (b % 2) := by
  rw [kbt_halves a b]
  have ha : a % 2 = 0 ∨ a % 2 = 1 := by omega
  have hb : b % 2 = 0 ∨ b % 2 = 1 := by omega
  rcases ha with ha | ha <;> rcases hb with hb | hb <;> simp [ha, hb]
theorem bits01 (a b : Int) : 0 ≤ (a % 2) * (b % 2) ∧ (a % 2) * (b % 2) ≤ 1 := by
  have ha : a % 2 = 0 ∨ a % 2 = 1 := by omega
  have hb : b % 2 = 0 ∨ b % 2 = 1 := by omega
  rcases ha with ha | ha <;> rcases hb with hb | hb <;> simp [ha, hb]
theorem lowAnd_eq : ∀ (k : Nat) (a b : Int), lowAnd a b k = Builtin.bitAnd a b % 2 ^ k
  | 0, a, b => by simp [lowAnd]
  | k + 1, a, b => by
    rw [lowAnd_half, lowAnd_eq k, and_halves a b, Int.pow_succ, mod_double (two_pos k) (bits01 a b).1 (bits01 a b).2]
theorem lowOr_eq : ∀ (k : Nat) (a b : Int), lowOr a b k = Builtin.bitOr a b % 2 ^ k
  | 0, a, b => by simp [lowOr]
  | k + 1, a, b => by
    rw [lowOr_half, lowOr_eq k, or_halves a b, Int.pow_succ, mod_double (two_pos k) (by split <;> omega) (by split <;> omega)]
theorem and_bnd : ∀ (k : Nat) (a b : Int), -2 ^ k ≤ a → a < 2 ^ k → -2 ^ k ≤ b → b < 2 ^ k → -2 ^ k ≤ Builtin.bitAnd a b ∧ Builtin.bitAnd a b < 2 ^ k
  | 0, a, b, h1, h2, h3, h4 => by
    have ha : a = 0 ∨ a = -1 := by omega
    have hb : b = 0 ∨ b = -1 := by omega
    rcases ha with rfl | rfl <;> rcases hb with rfl | rfl <;> decide
  | k + 1, a, b, h1, h2, h3, h4 => by
    have e : (2 : Int) ^ (k + 1) = 2 * 2 ^ k := by rw [Int.pow_succ, Int.mul_comm]
    have q := bits01 a b
    rw [e] at *
    have p := and_bnd k (a / 2) (b / 2) (by omega) (by omega) (by omega) (by omega)
    rw [and_halves a b]
    omega
theorem or_bnd {k : Nat} {a b : Int} (h1 : -2 ^ k ≤ a) (h2 : a < 2 ^ k) (h3 : -2 ^ k ≤ b) (h4 : b < 2 ^ k) : -2 ^ k ≤ Builtin.bitOr a b ∧ Builtin.bitOr a b < 2 ^ k := by
  revert a b
  induction k with
  | zero =>
    intro a b h1 h2 h3 h4
    have ha : a = 0 ∨ a = -1 := by omega
    have hb : b = 0 ∨ b = -1 := by omega
    rcases ha with rfl | rfl <;> rcases hb with rfl | rfl <;> decide
  | succ k ih =>
    intro a b h1 h2 h3 h4
    have e : (2 : Int) ^ (k + 1) = 2 * 2 ^ k := by rw [Int.pow_succ, Int.mul_comm]
    rw [e] at *
    have p := ih (a := a / 2) (b := b / 2) (by omega) (by omega) (by omega) (by omega)
    rw [or_halves a b]
    split <;> omega
theorem parts : ∀ (k : Nat) (a b : Int), -2 ^ k ≤ a → a < 2 ^ k → -2 ^ k ≤ b → b < 2 ^ k →
    Builtin.bitAnd a b + Builtin.bitAnd a (-1 - b) = a ∧ Builtin.bitAnd (Builtin.bitAnd a b) (Builtin.bitAnd a (-1 - b)) = 0
  | 0, a, b, h1, h2, h3, h4 => by
    have ha : a = 0 ∨ a = -1 := by omega
    have hb : b = 0 ∨ b = -1 := by omega
    rcases ha with rfl | rfl <;> rcases hb with rfl | rfl <;> decide
  | k + 1, a, b, h1, h2, h3, h4 => by
    have e : (2 : Int) ^ (k + 1) = 2 * 2 ^ k := by rw [Int.pow_succ, Int.mul_comm]
    rw [e] at *
    have p := parts k (a / 2) (b / 2) (by omega) (by omega) (by omega) (by omega)
    have e1 : (-1 - b) / 2 = -1 - b / 2 := by omega
    have e2 : (-1 - b) % 2 = 1 - b % 2 := by omega
    have ha : a % 2 = 0 ∨ a % 2 = 1 := by omega
    have hb : b % 2 = 0 ∨ b % 2 = 1 := by omega
    have x := and_halves a b
    have y := and_halves a (-1 - b)
    rw [e1, e2] at y
    rw [and_halves (Builtin.bitAnd a b) (Builtin.bitAnd a (-1 - b))]
    have dx : Builtin.bitAnd a b / 2 = Builtin.bitAnd (a / 2) (b / 2) := by
      rcases ha with ha | ha <;> rcases hb with hb | hb <;> simp only [ha, hb] at x <;> omega
    have dy : Builtin.bitAnd a (-1 - b) / 2 = Builtin.bitAnd (a / 2) (-1 - b / 2) := by
      rcases ha with ha | ha <;> rcases hb with hb | hb <;> simp only [ha, hb] at y <;> omega
    rw [dx, dy, p.2]
    rcases ha with ha | ha <;> rcases hb with hb | hb <;> simp only [ha, hb] at x y
    · have mx : Builtin.bitAnd a b % 2 = 0 := by omega
      rw [mx]; omega
    · have mx : Builtin.bitAnd a b % 2 = 0 := by omega
      rw [mx]; omega
    · have mx : Builtin.bitAnd a b % 2 = 0 := by omega
      rw [mx]; omega
    · have mx : Builtin.bitAnd a (-1 - b) % 2 = 0 := by omega
      rw [mx]; omega
theorem p63 : (2 : Int) ^ 63 = 9223372036854775808 := by decide
theorem p64 : (2 : Int) ^ 64 = 18446744073709551616 := by decide
theorem word_mod {x : Int} (h1 : -9223372036854775808 ≤ x) (h2 : x < 9223372036854775808) : wordOf (x % 2 ^ 64) = x := by
  unfold wordOf
  rw [p64, Int.fmod_eq_emod_of_nonneg _ (by decide)]
  split <;> omega
theorem word_and {a b : Int} (h1 : -9223372036854775808 ≤ a) (h2 : a ≤ 9223372036854775807) (h3 : -9223372036854775808 ≤ b) (h4 : b ≤ 9223372036854775807) : wordOf (lowAnd a b 64) = Builtin.bitAnd a b := by
  have q := and_bnd 63 a b (by rw [p63]; omega) (by rw [p63]; omega) (by rw [p63]; omega) (by rw [p63]; omega)
  rw [p63] at q
  rw [lowAnd_eq]
  exact word_mod q.1 q.2
theorem word_or {a b : Int} (h1 : -9223372036854775808 ≤ a) (h2 : a ≤ 9223372036854775807) (h3 : -9223372036854775808 ≤ b) (h4 : b ≤ 9223372036854775807) : wordOf (lowOr a b 64) = Builtin.bitOr a b := by
  have q := or_bnd (k := 63) (a := a) (b := b) (by rw [p63]; omega) (by rw [p63]; omega) (by rw [p63]; omega) (by rw [p63]; omega)
  rw [p63] at q
  rw [lowOr_eq]
  exact word_mod q.1 q.2
theorem put_together {a b : Int} (h1 : -9223372036854775808 ≤ a) (h2 : a ≤ 9223372036854775807) (h3 : -9223372036854775808 ≤ b) (h4 : b ≤ 9223372036854775807) : Builtin.bitOr (Builtin.bitAnd a b) (Builtin.bitAnd a (-1 - b)) = a := by
  have q := parts 63 a b (by rw [p63]; omega) (by rw [p63]; omega) (by rw [p63]; omega) (by rw [p63]; omega)
  rw [bitOr_and, q.2]
  omega
def movedOf (n p : Int) : Int := if 0 ≤ p then wordOf (n * 2 ^ (min p 70).toNat) else n.fdiv (2 ^ (min (-p) 70).toNat)
def shiftedOf (n p : Int) : Int := if 64 ≤ p then 0 else if 0 ≤ p then wordOf (n * 2 ^ p.toNat) else if p ≤ -64 then (if n < 0 then -1 else 0) else n.fdiv (2 ^ (-p).toNat)
theorem word_zero (n : Int) (k : Nat) : wordOf (n * 2 ^ (k + 64)) = 0 := by
  unfold wordOf
  rw [Int.fmod_eq_emod_of_nonneg _ (by decide), Int.pow_add, p64, ← Int.mul_assoc]
  have e : n * 2 ^ k * 18446744073709551616 % 18446744073709551616 = 0 := Int.mul_emod_left _ _
  rw [e]
  decide
theorem far_right {n : Int} (k : Nat) (h1 : -9223372036854775808 ≤ n) (h2 : n ≤ 9223372036854775807) : n.fdiv (2 ^ (k + 64)) = if n < 0 then -1 else 0 := by
  have hp := two_pos k
  have e : (2 : Int) ^ (k + 64) = 2 ^ k * 18446744073709551616 := by rw [Int.pow_add, p64]
  rw [Int.fdiv_eq_ediv_of_nonneg n (Int.le_of_lt (two_pos _)), e]
  generalize (2 : Int) ^ k = z at hp
  have hz : 18446744073709551616 ≤ z * 18446744073709551616 := by omega
  generalize z * 18446744073709551616 = y at hz
  split
  · exact (kbt_unique (a := n) (b := y) (q := -1) (r := n + y) (by omega) (by rw [Int.mul_neg, Int.mul_one]; omega) (by omega) (by omega)).1
  · exact Int.ediv_eq_zero_of_lt (by omega) (by omega)
theorem shifted_moved {n : Int} (p : Int) (h1 : -9223372036854775808 ≤ n) (h2 : n ≤ 9223372036854775807) : shiftedOf n p = movedOf n p := by
  unfold shiftedOf movedOf
  by_cases a : 64 ≤ p
  · rw [if_pos a, if_pos (by omega)]
    have e : (min p 70).toNat = ((min p 70).toNat - 64) + 64 := by omega
    rw [e, word_zero]
  · rw [if_neg a]
    by_cases b : 0 ≤ p
    · rw [if_pos b, if_pos b]
      have e : min p 70 = p := by omega
      rw [e]
    · rw [if_neg b, if_neg b]
      by_cases c : p ≤ -64
      · rw [if_pos c]
        have e : (min (-p) 70).toNat = ((min (-p) 70).toNat - 64) + 64 := by omega
        rw [e, far_right _ h1 h2]
      · rw [if_neg c]
        have e : min (-p) 70 = -p := by omega
        rw [e]
end Mine
namespace Mine
set_option maxHeartbeats 8000000
open_top hd for PySem.Challenge.rw_nt0100_01
end Mine
namespace Mine
abbrev Led := List (Addr × Obj)
noncomputable abbrev lv : List PySem.Str := looseW Mine.hd.view_39 [Str.ofString "MIN_INT", Str.ofString "MAX_INT", Str.ofString "WORD", Str.ofString "REPLACEMENT"]
/-- a call of the def at f: from a ledger, it comes back with a value and a ledger of which R holds -/
abbrev Does (k : Nat) (w : World) (f : Addr) (vs : List Value) (news : Led) (R : Value → Led → Prop) : Prop :=
  ∀ (mean : ExcName → Option Value) (mg mb : PySem.Str → Option Value) (dp un : Nat) (gd : Option (List Code)) (cn : PySem.Str) (cs : Scope) (a : Addr) (ccd : Value) (cl : List (PySem.Str × Addr)) (outer : List Env) (A₀ : Around) (base h₀ : Heap) (L : Addr) (m : PySem.Str → Option Value) (s : Shared) (Q E : Value → Shared → Prop),
    Below A₀ base outer h₀ → Fr h₀ L s.heap m → (Mine.hd.heap_39 w.params).In h₀ → News h₀ L s.heap news → Top Mine.hd.view_39 Mine.lv mean mg mb h₀ → cs.kind = .function →
    dp + k < recursionLimit → un + 8 * k < cLine →
    (∀ (v : Value) (news' : Led) (h' : Heap) (tk' : Nat), R v news' → Fr h₀ L h' m → News h₀ L h' news' → Q v { s with heap := h', toks := tk' }) →
    wpAny (model PySem.Challenge.rw_nt0100_01.row.prog w) (ktrTop dp un gd cn cs L a ccd cl outer) (call (.ref f) vs) Q E s
theorem Does.use {k : Nat} {w : World} {f : Addr} {vs : List Value} {news : Led} {R : Value → Led → Prop} (C : Does k w f vs news R)
    {mean : ExcName → Option Value} {mg mb : PySem.Str → Option Value} {dp un : Nat} {gd : Option (List Code)} {cn : PySem.Str} {cs : Scope} {a : Addr} {ccd : Value} {cl : List (PySem.Str × Addr)} {outer : List Env} {A₀ : Around} {base h₀ : Heap} {L : Addr} {m : PySem.Str → Option Value} {s : Shared} {Q E : Value → Shared → Prop}
    (B : Below A₀ base outer h₀) (F : Fr h₀ L s.heap m) (X : (Mine.hd.heap_39 w.params).In h₀) (N : News h₀ L s.heap news) (T : Top Mine.hd.view_39 Mine.lv mean mg mb h₀) (hk : cs.kind = .function)
    (hd : dp + k < recursionLimit) (hu : un + 8 * k < cLine)
    (ret : ∀ (v : Value) (news' : Led) (h' : Heap) (tk' : Nat), R v news' → Fr h₀ L h' m → News h₀ L h' news' → Q v { s with heap := h', toks := tk' }) :
    wpAny (model PySem.Challenge.rw_nt0100_01.row.prog w) (ktrTop dp un gd cn cs L a ccd cl outer) (call (.ref f) vs) Q E s := C _ _ _ _ _ _ _ _ _ _ _ _ _ _ _ _ _ _ _ _ B F X N T hk hd hu ret
theorem news_rot {h₀ h : Heap} {L : Addr} {p q : Addr × Obj} {r : Led} (N : News h₀ L h (p :: q :: r)) : News h₀ L h (q :: p :: r) := fun x hx => N x (by
  simp only [List.mem_cons] at hx ⊢
  rcases hx with hx | hx | hx
  · exact .inr (.inl hx)
  · exact .inl hx
  · exact .inr (.inr hx))
theorem news_rot3 {h₀ h : Heap} {L : Addr} {p q o : Addr × Obj} {r : Led} (N : News h₀ L h (p :: q :: o :: r)) : News h₀ L h (o :: p :: q :: r) := fun x hx => N x (by
  simp only [List.mem_cons] at hx ⊢
  rcases hx with hx | hx | hx | hx
  · exact .inr (.inr (.inl hx))
  · exact .inl hx
  · exact .inr (.inl hx)
  · exact .inr (.inr (.inr hx)))
theorem news_rot4 {h₀ h : Heap} {L : Addr} {p q o u : Addr × Obj} {r : Led} (N : News h₀ L h (p :: q :: o :: u :: r)) : News h₀ L h (u :: p :: q :: o :: r) := fun x hx => N x (by
  simp only [List.mem_cons] at hx ⊢
  rcases hx with hx | hx | hx | hx | hx
  · exact .inr (.inr (.inr (.inl hx)))
  · exact .inl hx
  · exact .inr (.inl hx)
  · exact .inr (.inr (.inl hx))
  · exact .inr (.inr (.inr (.inr hx))))
theorem news_drop2 {h₀ h : Heap} {L : Addr} {p q : Addr × Obj} {r : Led} (N : News h₀ L h (p :: q :: r)) : News h₀ L h (p :: r) := fun x hx => N x (by
  rcases List.mem_cons.mp hx with hx | hx
  · exact hx ▸ .head _
  · exact .tail _ (.tail _ hx))
theorem unr_end {h₀ : Heap} {L I D : Addr} {it o : Obj} {restP : (PySem.Str → Option Value) → Led → Prop} {s₁ : Shared} {h' : Heap} {tk : Nat} {m' : PySem.Str → Option Value} {rest : Led} (F : Fr h₀ L h' m') (N : News h₀ L h' ((D, o) :: (I, it) :: rest))
    (hD : D ≠ I) (hrest : ∀ p ∈ rest, p.1 ≠ I) (r : restP m' ((D, o) :: rest)) : UnrEnd h₀ L s₁ I it restP { s₁ with heap := h', toks := tk } :=
  ⟨h', tk, m', _, rfl, F, news_rot N, List.forall_mem_cons.mpr ⟨hD, hrest⟩, r⟩
theorem news_tail {h₀ h : Heap} {L : Addr} {p : Addr × Obj} {r : Led} (N : News h₀ L h (p :: r)) : News h₀ L h r := fun x hx => N x (.tail _ hx)
/-- the source's list -/
abbrev two (x : Int) (tx : Tok) (y : Int) (ty : Tok) : Obj := W.listOf #[Value.int x tx, Value.int y ty] 0
theorem fmod_bnd (a : Int) {b : Int} (hb : 0 < b) : 0 ≤ a.fmod b ∧ a.fmod b < b := by
  rw [Int.fmod_eq_emod_of_nonneg a (Int.le_of_lt hb)]
  exact ⟨Int.emod_nonneg a (by omega), Int.emod_lt_of_pos a hb⟩
theorem fdiv_nn {a b : Int} (ha : 0 ≤ a) (hb : 0 < b) : 0 ≤ a.fdiv b := Int.fdiv_nonneg ha (Int.le_of_lt hb)
section
variable {prog : Program} {w : World} {A : Around} {E : Value → Shared → Prop} {s : Shared} {h₀ : Heap} {L D : Addr} {m : PySem.Str → Option Value} {rest : Led} {a b v : Value} {n : Nat} {t : Tok} {x y z : Int} {tx ty tz : Tok}
theorem set_fst {Q : Unit → Shared → Prop} (F : Fr h₀ L s.heap m) (N : News h₀ L s.heap ((D, two x tx y ty) :: rest)) (hr : ∀ p ∈ rest, p.1 ≠ D) (hz : 0 ≤ z)
    (h : ∀ h' z' tz', 0 ≤ z' → Fr h₀ L h' m → News h₀ L h' ((D, two z' tz' y ty) :: rest) → Q () { s with heap := h' }) :
    wpAny (model prog w) A (setItem (.ref D) (.int 0 t) (.int z tz)) Q E s := by
  have q := N (D, two x tx y ty) (.head _)
  refine ki_setAt q.1 (by decide) (by decide) (by show (0 : Int) < 2; decide) (h _ z tz hz (F.change (Heap.SameBut.update ..) q.2.1 q.2.2) ?_)
  exact ki_turn (pre := []) _ N (fun _ h => nomatch h) hr rfl rfl
theorem set_snd {Q : Unit → Shared → Prop} (F : Fr h₀ L s.heap m) (N : News h₀ L s.heap ((D, two x tx y ty) :: rest)) (hr : ∀ p ∈ rest, p.1 ≠ D) (hz : 0 ≤ z ∧ z < 2147483647)
    (h : ∀ h' z' tz', 0 ≤ z' → z' < 2147483647 → Fr h₀ L h' m → News h₀ L h' ((D, two x tx z' tz') :: rest) → Q () { s with heap := h' }) :
    wpAny (model prog w) A (setItem (.ref D) (.int 1 t) (.int z tz)) Q E s := by
  have q := N (D, two x tx y ty) (.head _)
  refine ki_setAt q.1 (by decide) (by decide) (by show (1 : Int) < 2; decide) (h _ z tz hz.1 hz.2 (F.change (Heap.SameBut.update ..) q.2.1 q.2.2) ?_)
  exact ki_turn (pre := []) _ N (fun _ h => nomatch h) hr rfl rfl
theorem sub_fst {value slice : PySem.Expr} {Q : Value → Shared → Prop} (N : News h₀ L s.heap ((D, two x tx y ty) :: rest)) (h : Q (.int x tx) s)
    (hs : subscripted slice false (.ref D) (.int 0 t) = operate [.ref D, .int 0 t] (getItem (.ref D) (.int 0 t)) := by with_unfolding_all rfl) :
    wpAny (model prog w) A (subscriptTail value slice (.ref D) (.int 0 t)) Q E s := by
  have hl := PySem.IsL.isList (n := 0) (N (D, two x tx y ty) (.head _)).1
  exact tail_any hl.typeIs slot_list_getitem.lookup (wpAny_getItem_list hl (by decide) (by decide) rfl h) hs
theorem sub_snd {value slice : PySem.Expr} {Q : Value → Shared → Prop} (N : News h₀ L s.heap ((D, two x tx y ty) :: rest)) (h : Q (.int y ty) s)
    (hs : subscripted slice false (.ref D) (.int 1 t) = operate [.ref D, .int 1 t] (getItem (.ref D) (.int 1 t)) := by with_unfolding_all rfl) :
    wpAny (model prog w) A (subscriptTail value slice (.ref D) (.int 1 t)) Q E s := by
  have hl := PySem.IsL.isList (n := 0) (N (D, two x tx y ty) (.head _)).1
  exact tail_any hl.typeIs slot_list_getitem.lookup (wpAny_getItem_list hl (by decide) (by decide) rfl h) hs
end
def intsIn : List Value → List Int
  | [] => []
  | .int i _ :: r => i :: intsIn r
  | _ :: r => intsIn r
def allInts : List Value → Bool
  | [] => true
  | .int _ _ :: r => allInts r
  | _ => false
theorem ints_in : ∀ {vs : List Value}, allInts vs = true → IntsAre vs (intsIn vs)
  | [], _ => .nil
  | .int i t :: r, h => .cons i t (ints_in (vs := r) h)
  | .none :: _, h => nomatch h
  | .bool _ :: _, h => nomatch h
  | .float .. :: _, h => nomatch h
  | .str .. :: _, h => nomatch h
  | .bytes .. :: _, h => nomatch h
  | .ref _ :: _, h => nomatch h
theorem getD_mem {ns : List Int} {j : Nat} (h : j < ns.length) : ns.getD j 0 ∈ ns := by
  rw [List.getD_eq_getElem?_getD, List.getElem?_eq_getElem h]
  exact List.getElem_mem h
/-- it comes back with that int, the ledger as it was -/
abbrev IntBack (x : Int) (news : Led) : Value → Led → Prop := fun v news' => ∃ t, v = .int x t ∧ news' = news
abbrev BoolBack (b : Bool) (news : Led) : Value → Led → Prop := fun v news' => v = .bool b ∧ news' = news
theorem end_int {h₀ h' : Heap} {L : Addr} {m : PySem.Str → Option Value} {news : Led} {s : Shared} {Q : Value → Shared → Prop} {x y : Int} {t : Tok} {tk' : Nat}
    (hret : ∀ (v : Value) (news' : Led) (h' : Heap) (tk' : Nat), IntBack y news v news' → Fr h₀ L h' m → News h₀ L h' news' → Q v { s with heap := h', toks := tk' }) (e : x = y) (F : Fr h₀ L h' m) (N : News h₀ L h' news) : Q (.int x t) { s with heap := h', toks := tk' } := by
  subst e
  exact hret _ _ _ _ ⟨t, rfl, rfl⟩ F N

end Mine
local macro_rules | `(tactic| walk_at "mine claims") => `(tactic| ((case k1 => first | k_asm | fail "claim: the frames below"); (case k2 => first | k_asm | fail "claim: the frame"); (case k3 => first | k_asm | fail "claim: the written part"); (case k4 => first | k_asm | exact Mine.news_rot (by k_asm) | exact Mine.news_rot3 (by k_asm) | exact Mine.news_rot4 (by k_asm) | fail "claim: the ledger"); (case k5 => first | k_asm | fail "claim: the top's facts"); (case kK => first | exact rfl | assumption | fail "claim: the caller is no def"); (case kd => first | ktr_room | fail "claim: the frames' room"); (case ku => first | ktr_units | fail "claim: the C units")))
local macro_rules | `(tactic| walk_at "mine offs") => `(tactic| (repeat' (first | assumption | (refine List.forall_mem_cons.mpr ⟨?_, ?_⟩) | exact List.forall_mem_nil _ | kst_allNe | k_ne)))
namespace Mine
local macro_rules | `(tactic| walk_at "setItem ref int") => `(tactic| (k_here; (with_reducible show wpAny _ _ (setItem (Value.ref _) (Value.int 0 _) (Value.int _ _)) _ _ _); k_dflt (refine' set_fst ?k1 ?k2 ?k3 ?k4 ?_; (case k1 => k_asm); (case k2 => k_asm); (case k3 => k_asm); (case k4 => exact fdiv_nn (by assumption) (by assumption)); k_whole); intro h' z' tz' hz' F' N'; (try k_sweep)))
local macro_rules | `(tactic| walk_at "setItem ref int") => `(tactic| (k_here; (with_reducible show wpAny _ _ (setItem (Value.ref _) (Value.int 1 _) (Value.int _ _)) _ _ _); k_dflt (refine' set_snd ?k1 ?k2 ?k3 ?k4 ?_; (case k1 => k_asm); (case k2 => k_asm); (case k3 => k_asm); (case k4 => exact fmod_bnd _ (by decide)); k_whole); intro h' z' tz' hz' hz2' F' N'; (try k_sweep)))
local macro_rules | `(tactic| walk_at "subscriptTail Name Constant ref int") => `(tactic| (k_here; (with_reducible show wpAny _ _ (subscriptTail _ _ (Value.ref _) (Value.int 0 _)) _ _ _); k_dflt (refine' sub_fst ?k1 ?_ ?k2; (case k1 => k_asm); (case k2 => with_unfolding_all rfl); k_whole)))
local macro_rules | `(tactic| walk_at "subscriptTail Name Constant ref int") => `(tactic| (k_here; (with_reducible show wpAny _ _ (subscriptTail _ _ (Value.ref _) (Value.int 1 _)) _ _ _); k_dflt (refine' sub_snd ?k1 ?_ ?k2; (case k1 => k_asm); (case k2 => with_unfolding_all rfl); k_whole)))

set_option maxHeartbeats 8000000 in
theorem take_does (w : World) (src : Addr) (x : Int) (tx : Tok) (y : Int) (ty : Tok) (top : Int) (tt : Tok) (rest : Led)
    (hr : ∀ p ∈ rest, p.1 ≠ src) (hx : 0 ≤ x) (hy : 0 ≤ y) (hy2 : y < 2147483647) (ht : 0 < top) (ht2 : top < 1000) :
    Does 2 w 191 [.ref src, .int top tt] ((src, two x tx y ty) :: rest)
      (fun v news' => ∃ (d : Int) (t : Tok) (x' : Int) (tx' : Tok) (y' : Int) (ty' : Tok), v = .int d t ∧ 0 ≤ d ∧ d < top ∧ 0 ≤ x' ∧ 0 ≤ y' ∧ y' < 2147483647 ∧ news' = (src, two x' tx' y' ty') :: rest) := by
  w_top off
  unfold Does
  k_fill
  intro mean mg mb dp un gd cn cs a ccd cl outer A₀ base h₀ L m s Q E B F X N T hk hd hu hret
  refine wpAny_call ?_
  k_dflt cell_enter
  k_steps
  all_goals (refine hret _ _ _ _ ⟨_, _, _, _, _, _, rfl, (fmod_bnd _ ht).1, (fmod_bnd _ ht).2, ?_, ?_, ?_, rfl⟩ (by k_asm) (by k_asm) <;> assumption)
end Mine
namespace Mine
local macro_rules | `(tactic| walk_at "call ref") => `(tactic| (k_here; (with_reducible show wpAny _ _ (call (Value.ref 191) _) _ _ _); k_dflt (refine' Does.use (take_does _ _ _ _ _ _ _ _ _ ?r1 ?r2 ?r3 ?r4 ?r5 ?r6) ?k1 ?k2 ?k3 ?k4 ?k5 ?kK ?kd ?ku ?_; walk_at "mine claims"; (case r1 => first | assumption | fail "r1"); (case r2 => assumption); (case r3 => assumption); (case r4 => assumption); (case r5 => first | omega | fail "r5"); (case r6 => first | omega | fail "r6"); k_whole); intro v9 news9 h9 tk9 R9 F9 N9; obtain ⟨d, t, x', tx', y', ty', e9, hd0, hd1, hx', hy', hy2', f9⟩ := R9; subst e9; subst f9; (try dsimp only); (try k_sweep); (try k_fold)))

set_option maxHeartbeats 8000000 in
theorem one_does (w : World) (src th : Addr) (x : Int) (tx : Tok) (y : Int) (ty : Tok) (vs : List Value) (rest : Led)
    (hr : ∀ p ∈ rest, p.1 ≠ src) (hne : th ≠ src) (hx : 0 ≤ x) (hy : 0 ≤ y) (hy2 : y < 2147483647) (hv : allInts vs = true) (hn0 : 0 < (intsIn vs).length) (hn1 : (intsIn vs).length < 1000) :
    Does 3 w 198 [.ref src, .ref th] ((src, two x tx y ty) :: (th, W.listOf vs.toArray 0) :: rest)
      (fun v news' => ∃ (d : Int) (t : Tok) (x' : Int) (tx' : Tok) (y' : Int) (ty' : Tok), v = .int d t ∧ d ∈ intsIn vs ∧ 0 ≤ x' ∧ 0 ≤ y' ∧ y' < 2147483647 ∧ news' = (src, two x' tx' y' ty') :: (th, W.listOf vs.toArray 0) :: rest) := by
  w_top off
  have hr2 : ∀ p ∈ ((th, W.listOf vs.toArray 0) :: rest : Led), p.1 ≠ src := List.forall_mem_cons.mpr ⟨hne, hr⟩
  have hi := ints_in hv
  generalize hg : intsIn vs = ns at hi hn0 hn1
  have hlen : vs.length = ns.length := hi.length
  have hn : 0 < (ns.length : Int) := by omega
  have hn2 : (ns.length : Int) < 1000 := by omega
  unfold Does
  k_fill
  intro mean mg mb dp un gd cn cs a ccd cl outer A₀ base h₀ L m s Q E B F X N T hk hd hu hret
  refine wpAny_call ?_
  k_dflt cell_enter
  k_steps
  all_goals (refine hret _ _ _ _ ⟨_, _, _, _, _, _, rfl, getD_mem (by omega), ?_, ?_, ?_, rfl⟩ (by k_asm) (by k_asm) <;> assumption)
end Mine
namespace Mine
local macro_rules | `(tactic| walk_at "call ref") => `(tactic| (k_here; (with_reducible show wpAny _ _ (call (Value.ref 191) _) _ _ _); k_dflt (refine' Does.use (take_does _ _ _ _ _ _ _ _ _ ?r1 ?r2 ?r3 ?r4 ?r5 ?r6) ?k1 ?k2 ?k3 ?k4 ?k5 ?kK ?kd ?ku ?_; walk_at "mine claims"; (case r1 => first | assumption | walk_at "mine offs" | fail "r1"); (case r2 => assumption); (case r3 => assumption); (case r4 => assumption); (case r5 => first | omega | fail "r5"); (case r6 => first | omega | fail "r6"); k_whole); intro v9 news9 h9 tk9 R9 F9 N9; obtain ⟨d, t, x', tx', y', ty', e9, hd0, hd1, hx', hy', hy2', f9⟩ := R9; subst e9; subst f9; (try dsimp only); (try k_sweep); (try k_fold)))
local macro_rules | `(tactic| walk_at "call ref") => `(tactic| (k_here; (with_reducible show wpAny _ _ (call (Value.ref 198) _) _ _ _); k_dflt (refine' Does.use (one_does _ _ _ _ _ _ _ _ _ ?r1 ?r2 ?r3 ?r4 ?r5 ?r6 ?r7 ?r8) ?k1 ?k2 ?k3 ?k4 ?k5 ?kK ?kd ?ku ?_; walk_at "mine claims"; (case r1 => first | assumption | walk_at "mine offs" | fail "r1"); (case r2 => first | k_ne | fail "r2"); (case r3 => assumption); (case r4 => assumption); (case r5 => assumption); (case r6 => rfl); (case r7 => exact Nat.le_of_ble_eq_true rfl); (case r8 => exact Nat.le_of_ble_eq_true rfl); k_whole); intro v9 news9 h9 tk9 R9 F9 N9; obtain ⟨d, t, x', tx', y', ty', e9, hd0, hx', hy', hy2', f9⟩ := R9; subst e9; subst f9; (try simp only [intsIn, List.mem_cons, List.not_mem_nil, or_false] at hd0); (try dsimp only); (try k_sweep); (try k_fold)))

set_option maxHeartbeats 8000000 in
theorem number_does (w : World) (src : Addr) (x : Int) (tx : Tok) (y : Int) (ty : Tok) (rest : Led)
    (hr : ∀ p ∈ rest, p.1 ≠ src) (hx : 0 ≤ x) (hy : 0 ≤ y) (hy2 : y < 2147483647) :
    Does 4 w 205 [.ref src] ((src, two x tx y ty) :: rest)
      (fun v news' => ∃ (d : Int) (t : Tok) (x' : Int) (tx' : Tok) (y' : Int) (ty' : Tok), v = .int d t ∧ -9223372036854775808 ≤ d ∧ d ≤ 9223372036854775807 ∧ 0 ≤ x' ∧ 0 ≤ y' ∧ y' < 2147483647 ∧ news' = (src, two x' tx' y' ty') :: rest) := by
  w_top off
  unfold Does
  k_fill
  intro mean mg mb dp un gd cn cs a ccd cl outer A₀ base h₀ L m s Q E B F X N T hk hd hu hret
  refine wpAny_call ?_
  k_dflt cell_enter
  k_steps
  all_goals (
    refine hret _ _ _ _ ⟨_, _, _, _, _, _, rfl, ?lo, ?hi, ?_, ?_, ?_, rfl⟩ (by k_asm) (news_drop2 (by k_asm))
    case lo => (have e : (2 : Int) ^ (Int.toNat 63) = 9223372036854775808 := by decide); (try dsimp only); (try rw [e]); (repeat' split) <;> omega
    case hi => (have e : (2 : Int) ^ (Int.toNat 63) = 9223372036854775808 := by decide); (try dsimp only); (try rw [e]); (repeat' split) <;> omega
    all_goals assumption)
end Mine
namespace Mine
theorem q63 : (2 : Int) ^ Int.toNat 63 = 9223372036854775808 := by decide
theorem q64 : (2 : Int) ^ Int.toNat 64 = 18446744073709551616 := by decide

set_option maxHeartbeats 8000000 in
theorem word_does (w : World) (n : Int) (tn : Tok) (news : Led) : Does 2 w 212 [.int n tn] news (IntBack (wordOf n) news) := by
  w_top off
  (unfold Does; k_fill; intro mean mg mb dp un gd cn cs a ccd cl outer A₀ base h₀ L m s Q E B F X N T hk hd hu hret; refine wpAny_call ?_; k_dflt cell_enter)
  k_steps
  · refine end_int hret ?_ (by k_asm) (by k_asm)
    with_reducible rename (_ : Int) ≤ _ => hc
    rw [q63, q64] at hc
    unfold wordOf
    rw [q64, if_pos hc]
  · refine end_int hret ?_ (by k_asm) (by k_asm)
    with_reducible rename ¬ _ => hc
    rw [q63, q64] at hc
    unfold wordOf
    rw [q64, if_neg hc]
set_option maxHeartbeats 8000000 in
theorem wrapped_does (w : World) (n : Int) (tn : Tok) (news : Led) : Does 2 w 149 [.int n tn] news (IntBack (wordOf n) news) := by
  w_top off
  (unfold Does; k_fill; intro mean mg mb dp un gd cn cs a ccd cl outer A₀ base h₀ L m s Q E B F X N T hk hd hu hret; refine wpAny_call ?_; k_dflt cell_enter)
  k_steps
  all_goals (refine end_int hret ?_ (by k_asm) (by k_asm); unfold wordOf; split <;> omega)
end Mine
namespace Mine

local macro_rules | `(tactic| walk_at "call ref") => `(tactic| (k_here; (with_reducible show wpAny _ _ (call (Value.ref 212) _) _ _ _); k_dflt (refine' Does.use (word_does _ _ _ _) ?k1 ?k2 ?k3 ?k4 ?k5 ?kK ?kd ?ku ?_; walk_at "mine claims"; k_whole); intro v9 news9 h9 tk9 R9 F9 N9; obtain ⟨t, e9, f9⟩ := R9; subst e9; subst f9; (try dsimp only); (try k_sweep); (try k_fold)))
local macro_rules | `(tactic| walk_at "call ref") => `(tactic| (k_here; (with_reducible show wpAny _ _ (call (Value.ref 149) _) _ _ _); k_dflt (refine' Does.use (wrapped_does _ _ _ _) ?k1 ?k2 ?k3 ?k4 ?k5 ?kK ?kd ?ku ?_; walk_at "mine claims"; k_whole); intro v9 news9 h9 tk9 R9 F9 N9; obtain ⟨t, e9, f9⟩ := R9; subst e9; subst f9; (try dsimp only); (try k_sweep); (try k_fold)))
set_option maxHeartbeats 8000000 in
theorem moved_does (w : World) (n p : Int) (tn tp : Tok) (news : Led) (hn : -9223372036854775808 ≤ n) (hn2 : n ≤ 9223372036854775807) : Does 4 w 219 [.int n tn, .int p tp] news (IntBack (movedOf n p) news) := by
  w_top off
  (unfold Does; k_fill; intro mean mg mb dp un gd cn cs a ccd cl outer A₀ base h₀ L m s Q E B F X N T hk hd hu hret; refine wpAny_call ?_; k_dflt cell_enter)
  k_steps
  all_goals (refine end_int hret ?_ (by k_asm) (by k_asm); unfold movedOf; simp only [Int.min_def]; (repeat' split) <;> first | rfl | (exfalso; omega))
set_option maxHeartbeats 8000000 in
theorem shifted_does (w : World) (n p : Int) (tn tp : Tok) (news : Led) (hn : -9223372036854775808 ≤ n) (hn2 : n ≤ 9223372036854775807) : Does 4 w 163 [.int n tn, .int p tp] news (IntBack (shiftedOf n p) news) := by
  w_top off
  (unfold Does; k_fill; intro mean mg mb dp un gd cn cs a ccd cl outer A₀ base h₀ L m s Q E B F X N T hk hd hu hret; refine wpAny_call ?_; k_dflt cell_enter)
  k_steps
  all_goals (refine end_int hret ?_ (by k_asm) (by k_asm); unfold shiftedOf; (repeat' split) <;> first | rfl | (exfalso; omega))
end Mine
namespace Mine

abbrev Same (x : Value) (news : Led) : Value → Led → Prop := fun v news' => v = x ∧ news' = news
set_option maxHeartbeats 8000000 in
theorem asint_does (w : World) (n : Int) (tn : Tok) (news : Led) : Does 2 w 114 [.int n tn] news (Same (.int n tn) news) := by
  w_top off
  (unfold Does; k_fill; intro mean mg mb dp un gd cn cs a ccd cl outer A₀ base h₀ L m s Q E B F X N T hk hd hu hret; refine wpAny_call ?_; k_dflt cell_enter)
  k_steps
  all_goals exact hret _ _ _ _ ⟨rfl, rfl⟩ (by k_asm) (by k_asm)

local macro_rules | `(tactic| walk_at "call ref") => `(tactic| (k_here; (with_reducible show wpAny _ _ (call (Value.ref 163) _) _ _ _); k_dflt (refine' Does.use (shifted_does _ _ _ _ _ _ ?r1 ?r2) ?k1 ?k2 ?k3 ?k4 ?k5 ?kK ?kd ?ku ?_; walk_at "mine claims"; (case r1 => omega); (case r2 => omega); k_whole); intro v9 news9 h9 tk9 R9 F9 N9; obtain ⟨t, e9, f9⟩ := R9; subst e9; subst f9; (try dsimp only); (try k_sweep); (try k_fold)))
local macro_rules | `(tactic| walk_at "call ref") => `(tactic| (k_here; (with_reducible show wpAny _ _ (call (Value.ref 114) _) _ _ _); k_dflt (refine' Does.use (asint_does _ _ _ _) ?k1 ?k2 ?k3 ?k4 ?k5 ?kK ?kd ?ku ?_; walk_at "mine claims"; k_whole); intro v9 news9 h9 tk9 R9 F9 N9; obtain ⟨e9, f9⟩ := R9; subst e9; subst f9; (try dsimp only); (try k_sweep); (try k_fold)))
set_option maxHeartbeats 8000000 in
theorem shl_does (w : World) (n p : Int) (to tn tp : Tok) (news : Led) (hn : -9223372036854775808 ≤ n) (hn2 : n ≤ 9223372036854775807) : Does 6 w 170 [.str (Str.ofString "<<") to, .int n tn, .int p tp] news (IntBack (movedOf n p) news) := by
  w_top off
  (unfold Does; k_fill; intro mean mg mb dp un gd cn cs a ccd cl outer A₀ base h₀ L m s Q E B F X N T hk hd hu hret; refine wpAny_call ?_; k_dflt cell_enter)
  k_steps
  all_goals (refine end_int hret ?_ (by k_asm) (by k_asm); exact shifted_moved p hn hn2)
set_option maxHeartbeats 8000000 in
theorem shr_does (w : World) (n p : Int) (to tn tp : Tok) (news : Led) (hn : -9223372036854775808 ≤ n) (hn2 : n ≤ 9223372036854775807) : Does 6 w 170 [.str (Str.ofString ">>") to, .int n tn, .int p tp] news (IntBack (movedOf n (-p)) news) := by
  w_top off
  (unfold Does; k_fill; intro mean mg mb dp un gd cn cs a ccd cl outer A₀ base h₀ L m s Q E B F X N T hk hd hu hret; refine wpAny_call ?_; k_dflt cell_enter)
  k_steps
  all_goals (refine end_int hret ?_ (by k_asm) (by k_asm); exact shifted_moved (-p) hn hn2)
set_option maxHeartbeats 8000000 in
theorem and_does (w : World) (a b : Int) (to tn tp : Tok) (news : Led) : Does 6 w 170 [.str (Str.ofString "&") to, .int a tn, .int b tp] news (IntBack (Builtin.bitAnd a b) news) := by
  w_top off
  (unfold Does; k_fill; intro mean mg mb dp un gd cn cs a ccd cl outer A₀ base h₀ L m s Q E B F X N T hk hd hu hret; refine wpAny_call ?_; k_dflt cell_enter)
  k_steps
  all_goals (refine end_int hret ?_ (by k_asm) (by k_asm); rfl)
set_option maxHeartbeats 8000000 in
theorem or_does (w : World) (a b : Int) (to tn tp : Tok) (news : Led) : Does 6 w 170 [.str (Str.ofString "|") to, .int a tn, .int b tp] news (IntBack (Builtin.bitOr a b) news) := by
  w_top off
  (unfold Does; k_fill; intro mean mg mb dp un gd cn cs a ccd cl outer A₀ base h₀ L m s Q E B F X N T hk hd hu hret; refine wpAny_call ?_; k_dflt cell_enter)
  k_steps
  all_goals (refine end_int hret ?_ (by k_asm) (by k_asm); rfl)
set_option maxHeartbeats 8000000 in
theorem not_does (w : World) (b : Int) (to tp : Tok) (news : Led) : Does 6 w 177 [.str (Str.ofString "~") to, .int b tp] news (IntBack (-1 - b) news) := by
  w_top off
  (unfold Does; k_fill; intro mean mg mb dp un gd cn cs a ccd cl outer A₀ base h₀ L m s Q E B F X N T hk hd hu hret; refine wpAny_call ?_; k_dflt cell_enter)
  k_steps
  all_goals (refine end_int hret ?_ (by k_asm) (by k_asm); rfl)
end Mine
namespace Mine
theorem bits_turn {a b x y k : Int} {pre : List Int} (h1 : x = lowAnd a b pre.length) (h2 : y = lowOr a b pre.length) (hk : k = 0 + (pre.length : Int)) :
    x + (a.fdiv (2 ^ k.toNat)).fmod 2 * (b.fdiv (2 ^ k.toNat)).fmod 2 * 2 ^ k.toNat = lowAnd a b (pre ++ [k]).length ∧
    y + (if (b.fdiv (2 ^ k.toNat)).fmod 2 > (a.fdiv (2 ^ k.toNat)).fmod 2 then (b.fdiv (2 ^ k.toNat)).fmod 2 else (a.fdiv (2 ^ k.toNat)).fmod 2) * 2 ^ k.toNat = lowOr a b (pre ++ [k]).length := by
  have e : k.toNat = pre.length := by omega
  rw [e, List.length_append, h1, h2]
  exact ⟨rfl, rfl⟩
local macro_rules | `(tactic| walk_at "call ref") => `(tactic| (k_here; (with_reducible show wpAny _ _ (call (Value.ref 170) [Value.str (Str.ofString "&") _, _, _]) _ _ _); k_dflt (refine' Does.use (and_does _ _ _ _ _ _ _) ?k1 ?k2 ?k3 ?k4 ?k5 ?kK ?kd ?ku ?_; walk_at "mine claims"; k_whole); intro v9 news9 h9 tk9 R9 F9 N9; obtain ⟨t, e9, f9⟩ := R9; subst e9; subst f9; (try dsimp only); (try k_sweep); (try k_fold)))
local macro_rules | `(tactic| walk_at "call ref") => `(tactic| (k_here; (with_reducible show wpAny _ _ (call (Value.ref 170) [Value.str (Str.ofString "|") _, _, _]) _ _ _); k_dflt (refine' Does.use (or_does _ _ _ _ _ _ _) ?k1 ?k2 ?k3 ?k4 ?k5 ?kK ?kd ?ku ?_; walk_at "mine claims"; k_whole); intro v9 news9 h9 tk9 R9 F9 N9; obtain ⟨t, e9, f9⟩ := R9; subst e9; subst f9; (try dsimp only); (try k_sweep); (try k_fold)))
local macro_rules | `(tactic| walk_at "call ref") => `(tactic| (k_here; (with_reducible show wpAny _ _ (call (Value.ref 177) [Value.str (Str.ofString "~") _, _]) _ _ _); k_dflt (refine' Does.use (not_does _ _ _ _ _) ?k1 ?k2 ?k3 ?k4 ?k5 ?kK ?kd ?ku ?_; walk_at "mine claims"; k_whole); intro v9 news9 h9 tk9 R9 F9 N9; obtain ⟨t, e9, f9⟩ := R9; subst e9; subst f9; (try dsimp only); (try k_sweep); (try k_fold)))
local macro_rules | `(tactic| walk_at "call ref") => `(tactic| (k_here; (with_reducible show wpAny _ _ (call (Value.ref 212) _) _ _ _); k_dflt (refine' Does.use (word_does _ _ _ _) ?k1 ?k2 ?k3 ?k4 ?k5 ?kK ?kd ?ku ?_; walk_at "mine claims"; k_whole); intro v9 news9 h9 tk9 R9 F9 N9; obtain ⟨t, e9, f9⟩ := R9; subst e9; subst f9; (try dsimp only); (try k_sweep); (try k_fold)))

set_option maxHeartbeats 8000000 in
theorem bits_does (w : World) (one other : Int) (t1 t2 : Tok) (news : Led) (hn : -9223372036854775808 ≤ one) (hn2 : one ≤ 9223372036854775807) (hm : -9223372036854775808 ≤ other) (hm2 : other ≤ 9223372036854775807) :
    Does 8 w 233 [.int one t1, .int other t2] news (fun v news' => v = .bool true ∧ news' = news) := by
  w_top off
  k_with "pyIter ref" => (k_state_given ["one", "other"] (fun one other pre b e => b = lowAnd one other pre.length ∧ e = lowOr one other pre.length) "both" "either")
  k_with "state" => first | exact ⟨rfl, rfl⟩ | exact bits_turn (by assumption) (by assumption) (by assumption)
  (unfold Does; k_fill; intro mean mg mb dp un gd cn cs a ccd cl outer A₀ base h₀ L m s Q E B F X N T hk hd hu hret; refine wpAny_call ?_; k_dflt cell_enter)
  k_steps
  all_goals (have e64 : (rangeKs 0 ((64 : Int) - 0).toNat).length = 64 := by rw [rangeKs_length]; rfl)
  all_goals ((with_reducible rename _ = lowAnd _ _ _ => hx); (with_reducible rename _ = lowOr _ _ _ => hy); rw [e64] at hx hy)
  · with_reducible rename (_ : Int) ≠ _ => hne
    exact absurd (by rw [hx]; exact (word_and hn hn2 hm hm2).symm) hne
  · with_reducible rename (_ : Int) ≠ _ => hne
    exact absurd (by rw [hy]; exact (word_or hn hn2 hm hm2).symm) hne
  · with_reducible rename (_ : Int) ≠ _ => hne
    exact absurd (by omega) hne
  · refine hret _ _ _ _ ⟨?_, rfl⟩ (by k_asm) (news_tail (by k_asm))
    rw [put_together hn hn2 hm hm2]
    exact congrArg Value.bool (beq_self_eq_true one)
end Mine
namespace Mine
section
variable {prog : Program} {w : World} {A : Around} {E : Value → Shared → Prop} {s : Shared} {env : Env} {h₀ : Heap} {x : PySem.Str} {body : List Stmt} {Q : Flow → Shared → Prop}
abbrev Two : Type := Int × Tok × Int × Tok
abbrev srcLed (D : Addr) (rest : Led) : Two → Led := fun c => (D, two c.1 c.2.1 c.2.2.1 c.2.2.2) :: rest
abbrev srcSays : Two → Prop := fun c => 0 ≤ c.1 ∧ 0 ≤ c.2.2.1 ∧ c.2.2.1 < 2147483647
/-- a loop over range(3) that turns the source's list alone -/
theorem src_loop {r : Addr} {t₀ u₀ v₀ : Tok} {m₀ : PySem.Str → Option Value} {D : Addr} {rest : Led} {x₀ y₀ : Int} {tx₀ ty₀ : Tok} (stored : List PySem.Str)
    (hh : A.handled = none) (hr : IsRange s.heap r 0 3 1 t₀ u₀ v₀) (F : Fr h₀ env.locals s.heap m₀) (N : News h₀ env.locals s.heap ((D, two x₀ tx₀ y₀ ty₀) :: rest)) (hrest : ∀ p ∈ rest, p.1 ≠ D)
    (hx : 0 ≤ x₀) (hy : 0 ≤ y₀) (hy2 : y₀ < 2147483647)
    (turn : ∀ (x' : Int) (tx' : Tok) (y' : Int) (ty' : Tok) (pre : List Int) (k : Int) t (u : PySem.Str → Option Value) h tk own, 0 ≤ k → k < 3 → (∀ p ∈ rest ++ own, p.1 ≠ D) → 0 ≤ x' → 0 ≤ y' → y' < 2147483647 →
      Fr h₀ env.locals h (fun y => if y = x then some (.int k t) else (if stored.contains y then u y else m₀ y)) → News h₀ env.locals h ((D, two x' tx' y' ty') :: (rest ++ own)) →
      wpAny (model prog w) A (execs body env) (InvPostN h₀ env.locals (KstS (srcLed D rest) (fun _ => []) srcSays x stored m₀ (fun _ _ => True) (pre ++ [k])) own (D :: rest.map (·.1)) { s with heap := h, toks := tk } Q) E { s with heap := h, toks := tk })
    (done : ∀ (x' : Int) (tx' : Tok) (y' : Int) (ty' : Tok) (u : PySem.Str → Option Value) h tk, 0 ≤ x' → 0 ≤ y' → y' < 2147483647 → Fr h₀ env.locals h (fun y => if y = x then u y else (if stored.contains y then u y else m₀ y)) → News h₀ env.locals h ((D, two x' tx' y' ty') :: rest) → Q .next { s with heap := h, toks := tk }) :
    wpAny (model prog w) A (pyIter (.ref r)) (fun it s₂ => LoopAtV prog w A h₀ env x body Q E it s₂) E s := by
  refine kst_range (σ := Two) (n := 3) (srcLed D rest) (fun _ => []) srcSays stored (fun _ _ => True) (x₀, tx₀, y₀, ty₀) hh hr (by decide) (by decide) F N ⟨hx, hy, hy2⟩ (fun _ hp => nomatch hp) trivial ?_ ?_
  · intro c pre k t u h tk own e1 e2 ho hc _ F' N'
    exact turn c.1 c.2.1 c.2.2.1 c.2.2.2 pre k t u h tk own (by omega) (by omega) (List.forall_mem_append.mpr ⟨hrest, fun p hp => ho p hp _ (.head _)⟩) hc.1 hc.2.1 hc.2.2 F' N'
  · intro c u h tk hc _ F' N'
    exact done c.1 c.2.1 c.2.2.1 c.2.2.2 u h tk hc.1 hc.2.1 hc.2.2 F' N'
theorem src_end {L D : Addr} {stored : List PySem.Str} {m₀ m' : PySem.Str → Option Value} {pre : List Int} {rest own : Led} {s₁ : Shared} {h' : Heap} {tk : Nat} {x' y' : Int} {tx' ty' : Tok}
    (F : Fr h₀ L h' m') (N : News h₀ L h' ((D, two x' tx' y' ty') :: (rest ++ own))) (hx : 0 ≤ x') (hy : 0 ≤ y') (hy2 : y' < 2147483647) (hr : ∀ z, z ≠ x → (∀ p ∈ ([] : List (PySem.Str × Value)), z ≠ p.1) → stored.contains z = false → m' z = m₀ z) :
    InvEndN h₀ L (KstS (srcLed D rest) (fun _ => []) srcSays x stored m₀ (fun _ _ => True) pre) own (D :: rest.map (·.1)) s₁ { s₁ with heap := h', toks := tk } :=
  kst_end (x', tx', y', ty') F N (fun y hy => by
    rcases List.mem_cons.mp hy with hy | hy
    · rw [hy]; exact .head _
    · exact .tail _ (List.mem_append_left _ hy)) (fun y hy => .tail _ (List.mem_append_right _ hy)) rfl ⟨hx, hy, hy2⟩ (fun _ hp => nomatch hp) hr trivial
end
local macro_rules | `(tactic| walk_at "pyIter ref") => `(tactic| ((with_reducible show wpAny _ _ (pyIter (Value.ref _)) (fun it s₂ => LoopAtV _ _ _ _ _ (Str.ofString "turn") _ _ _ it s₂) _ _); k_here; (rename Fr _ _ _ _ => lF'); (rename News _ _ _ _ => lN'); (rename IsRange _ _ _ _ _ _ _ _ => rgX); (with_unfolding_all refine' src_loop [Str.ofString "far", Str.ofString "places", Str.ofString "due"] (by rfl) rgX lF' lN' ?hr ?hx ?hy ?hz ?_ ?_); (case hr => assumption); (case hx => assumption); (case hy => assumption); (case hz => assumption); (all_goals (clear lF' lN' rgX)); (all_goals (first | (intro x' tx' y' ty' pre k t u h tk own k0 k3 hOff hx' hy' hy2' F' N'; try k_fold) | (intro x' tx' y' ty' u h tk hx' hy' hy2' F' N'; try k_fold)))))
local macro_rules | `(tactic| walk_at "InvEndN") => `(tactic| (k_dflt (refine' src_end ?kF ?kN ?kx ?ky ?kz ?kR; (case kF => k_asm); (case kN => k_asm); (case kx => assumption); (case ky => assumption); (case kz => assumption)); (case kR => kst_same)))
local macro_rules | `(tactic| walk_at "call ref") => `(tactic| (k_here; (with_reducible show wpAny _ _ (call (Value.ref 191) _) _ _ _); k_dflt (refine' Does.use (take_does _ _ _ _ _ _ _ _ _ ?r1 ?r2 ?r3 ?r4 ?r5 ?r6) ?k1 ?k2 ?k3 ?k4 ?k5 ?kK ?kd ?ku ?_; walk_at "mine claims"; (case r1 => first | assumption | walk_at "mine offs" | fail "r1"); (case r2 => assumption); (case r3 => assumption); (case r4 => assumption); (case r5 => first | omega | fail "r5"); (case r6 => first | omega | fail "r6"); k_whole); intro v9 news9 h9 tk9 R9 F9 N9; obtain ⟨d, t, x', tx', y', ty', e9, hd0, hd1, hx', hy', hy2', f9⟩ := R9; subst e9; subst f9; (try dsimp only); (try k_sweep); (try k_fold)))
local macro_rules | `(tactic| walk_at "call ref") => `(tactic| (k_here; (with_reducible show wpAny _ _ (call (Value.ref 198) _) _ _ _); k_dflt (refine' Does.use (one_does _ _ _ _ _ _ _ _ _ ?r1 ?r2 ?r3 ?r4 ?r5 ?r6 ?r7 ?r8) ?k1 ?k2 ?k3 ?k4 ?k5 ?kK ?kd ?ku ?_; walk_at "mine claims"; (case r1 => first | assumption | walk_at "mine offs" | fail "r1"); (case r2 => first | k_ne | fail "r2"); (case r3 => assumption); (case r4 => assumption); (case r5 => assumption); (case r6 => rfl); (case r7 => exact Nat.le_of_ble_eq_true rfl); (case r8 => exact Nat.le_of_ble_eq_true rfl); k_whole); intro v9 news9 h9 tk9 R9 F9 N9; obtain ⟨d, t, x', tx', y', ty', e9, hd0, hx', hy', hy2', f9⟩ := R9; subst e9; subst f9; clear hd0; replace N9 := news_drop2 N9; (try dsimp only); (try k_sweep); (try k_fold)))
local macro_rules | `(tactic| walk_at "call ref") => `(tactic| (k_here; (with_reducible show wpAny _ _ (call (Value.ref 170) [Value.str (Str.ofString "<<") _, _, _]) _ _ _); k_dflt (refine' Does.use (shl_does _ _ _ _ _ _ _ ?r1 ?r2) ?k1 ?k2 ?k3 ?k4 ?k5 ?kK ?kd ?ku ?_; walk_at "mine claims"; (case r1 => omega); (case r2 => omega); k_whole); intro v9 news9 h9 tk9 R9 F9 N9; obtain ⟨t, e9, f9⟩ := R9; subst e9; subst f9; (try dsimp only); (try k_sweep); (try k_fold)))
local macro_rules | `(tactic| walk_at "call ref") => `(tactic| ((k_here; (with_reducible show wpAny _ _ (call (Value.ref 170) [Value.str (Str.ofString ">>") _, _, _]) _ _ _); k_dflt (refine' Does.use (shr_does _ _ _ _ _ _ _ ?r1 ?r2) ?k1 ?k2 ?k3 ?k4 ?k5 ?kK ?kd ?ku ?_; walk_at "mine claims"; (case r1 => omega); (case r2 => omega); k_whole); intro v9 news9 h9 tk9 R9 F9 N9; obtain ⟨t, e9, f9⟩ := R9; subst e9; subst f9; (try dsimp only); (try k_sweep); (try k_fold)); (try simp only [Int.neg_neg])))
local macro_rules | `(tactic| walk_at "call ref") => `(tactic| (k_here; (with_reducible show wpAny _ _ (call (Value.ref 219) _) _ _ _); k_dflt (refine' Does.use (moved_does _ _ _ _ _ _ ?r1 ?r2) ?k1 ?k2 ?k3 ?k4 ?k5 ?kK ?kd ?ku ?_; walk_at "mine claims"; (case r1 => omega); (case r2 => omega); k_whole); intro v9 news9 h9 tk9 R9 F9 N9; obtain ⟨t, e9, f9⟩ := R9; subst e9; subst f9; (try dsimp only); (try k_sweep); (try k_fold)))

set_option maxHeartbeats 8000000 in
theorem shifts_does (w : World) (src : Addr) (x : Int) (tx : Tok) (y : Int) (ty : Tok) (n : Int) (tn : Tok) (rest : Led)
    (hr : ∀ p ∈ rest, p.1 ≠ src) (hx : 0 ≤ x) (hy : 0 ≤ y) (hy2 : y < 2147483647) (hn : -9223372036854775808 ≤ n) (hn2 : n ≤ 9223372036854775807) :
    Does 10 w 226 [.ref src, .int n tn] ((src, two x tx y ty) :: rest)
      (fun v news' => ∃ (x' : Int) (tx' : Tok) (y' : Int) (ty' : Tok), v = .bool true ∧ 0 ≤ x' ∧ 0 ≤ y' ∧ y' < 2147483647 ∧ news' = (src, two x' tx' y' ty') :: rest) := by
  w_top off
  (unfold Does; k_fill; intro mean mg mb dp un gd cn cs a ccd cl outer A₀ base h₀ L m s Q E B F X N T hk hd hu hret; refine wpAny_call ?_; k_dflt cell_enter)
  k_steps
  all_goals first
    | ((with_reducible rename (_ : Int) ≠ _ => hne); exact absurd rfl hne)
    | ((with_reducible rename (_ : Int) ≠ _ => hne); rw [Int.neg_neg] at hne; exact absurd rfl hne)
    | (refine hret _ _ _ _ ⟨_, _, _, _, rfl, ?_, ?_, ?_, rfl⟩ (by k_asm) (by k_asm) <;> assumption)
end Mine
namespace Mine
abbrev DoesB (k : Nat) (w : World) (f : Addr) (vs : List Value) (news : Led) (l : Addr) (us : List Value) (R : Value → Led → Prop) : Prop :=
  ∀ (mean : ExcName → Option Value) (mg mb : PySem.Str → Option Value) (dp un : Nat) (gd : Option (List Code)) (cn : PySem.Str) (cs : Scope) (a : Addr) (ccd : Value) (cl : List (PySem.Str × Addr)) (outer : List Env) (A₀ : Around) (base h₀ : Heap) (L : Addr) (m : PySem.Str → Option Value) (s : Shared) (Q E : Value → Shared → Prop),
    Below A₀ base outer h₀ → Fr h₀ L s.heap m → (Mine.hd.heap_39 w.params).In h₀ → News h₀ L s.heap news → Top Mine.hd.view_39 Mine.lv mean mg mb h₀ → cs.kind = .function →
    dp + k < recursionLimit → un + 8 * k < cLine → base.IsList l us.toArray →
    (∀ (v : Value) (news' : Led) (h' : Heap) (tk' : Nat), R v news' → Fr h₀ L h' m → News h₀ L h' news' → Q v { s with heap := h', toks := tk' }) →
    wpAny (model PySem.Challenge.rw_nt0100_01.row.prog w) (ktrTop dp un gd cn cs L a ccd cl outer) (call (.ref f) vs) Q E s
set_option maxHeartbeats 8000000 in
theorem pool_does (w : World) (l : Addr) (us : List Value) (ns : List Int) (k : Int) (tk : Tok) (news : Led) (hi : IntsAre us ns) (hlay : PyData.layable0 (.list (ns.map .int)) = true) (hk0 : 0 ≤ k) (hk3 : k < 3) (hlen : ns.length ≤ 63) :
    DoesB 2 w 184 [.ref l, .int k tk] news l us
      (fun v news' => ∃ (src : Addr) (x' : Int) (tx' : Tok) (y' : Int) (ty' : Tok), v = .ref src ∧ 0 ≤ x' ∧ 0 ≤ y' ∧ y' < 2147483647 ∧ (∀ p ∈ news, p.1 < src) ∧ news' = (src, two x' tx' y' ty') :: news) := by
  w_top off
  unfold DoesB
  k_fill
  intro mean mg mb dp un gd cn cs a ccd cl outer A₀ base h₀ L m s Q E B F X N T hk hd hu hl hret
  refine wpAny_call ?_
  k_dflt cell_enter
  k_steps
  all_goals (
    refine hret _ _ _ _ ⟨_, _, _, _, _, rfl, ?_, (fmod_bnd _ (by decide)).1, (fmod_bnd _ (by decide)).2, by assumption, rfl⟩ (by k_asm) (by k_asm)
    refine Int.mul_nonneg ?_ ?_ <;> (try dsimp only) <;> (repeat' split) <;> omega)
end Mine
namespace Mine
theorem DoesB.use {k : Nat} {w : World} {f : Addr} {vs : List Value} {news : Led} {l : Addr} {us : List Value} {R : Value → Led → Prop} (C : DoesB k w f vs news l us R)
    {mean : ExcName → Option Value} {mg mb : PySem.Str → Option Value} {dp un : Nat} {gd : Option (List Code)} {cn : PySem.Str} {cs : Scope} {a : Addr} {ccd : Value} {cl : List (PySem.Str × Addr)} {outer : List Env} {A₀ : Around} {base h₀ : Heap} {L : Addr} {m : PySem.Str → Option Value} {s : Shared} {Q E : Value → Shared → Prop}
    (B : Below A₀ base outer h₀) (F : Fr h₀ L s.heap m) (X : (Mine.hd.heap_39 w.params).In h₀) (N : News h₀ L s.heap news) (T : Top Mine.hd.view_39 Mine.lv mean mg mb h₀) (hk : cs.kind = .function)
    (hd : dp + k < recursionLimit) (hu : un + 8 * k < cLine) (hl : base.IsList l us.toArray)
    (ret : ∀ (v : Value) (news' : Led) (h' : Heap) (tk' : Nat), R v news' → Fr h₀ L h' m → News h₀ L h' news' → Q v { s with heap := h', toks := tk' }) :
    wpAny (model PySem.Challenge.rw_nt0100_01.row.prog w) (ktrTop dp un gd cn cs L a ccd cl outer) (call (.ref f) vs) Q E s := C _ _ _ _ _ _ _ _ _ _ _ _ _ _ _ _ _ _ _ _ B F X N T hk hd hu hl ret

section
variable {prog : Program} {w : World} {A : Around} {E : Value → Shared → Prop} {s : Shared} {env : Env} {h₀ : Heap} {x : PySem.Str} {body : List Stmt} {Q : Flow → Shared → Prop}
abbrev cellLed (C : Addr) : Obj → Led := fun c => [(C, c)]
abbrev cellSays : Obj → Prop := fun c => ∃ v, c.data = .cell v
theorem kst_cell {r : Addr} {b₀ : Int} {t₀ u₀ v₀ : Tok} {m₀ : PySem.Str → Option Value} {C : Addr} {o₀ : Obj} (stored : List PySem.Str)
    (hh : A.handled = none) (hr : IsRange s.heap r 0 b₀ 1 t₀ u₀ v₀) (hb : 0 ≤ b₀ ∧ b₀ ≤ 3) (F : Fr h₀ env.locals s.heap m₀) (N : News h₀ env.locals s.heap [(C, o₀)]) (ho : cellSays o₀)
    (turn : ∀ (c : Obj) (pre : List Int) (k : Int) t (u : PySem.Str → Option Value) h tk own, 0 ≤ k → k < 3 → OwnOff own [C] → cellSays c →
      Fr h₀ env.locals h (fun y => if y = x then some (.int k t) else (if stored.contains y then u y else m₀ y)) → News h₀ env.locals h ((C, c) :: own) →
      wpAny (model prog w) A (execs body env) (InvPostN h₀ env.locals (KstS (cellLed C) (fun _ => []) cellSays x stored m₀ (fun _ _ => True) (pre ++ [k])) own [C] { s with heap := h, toks := tk } Q) E { s with heap := h, toks := tk })
    (done : ∀ (c : Obj) (u : PySem.Str → Option Value) h tk, cellSays c → Fr h₀ env.locals h (fun y => if y = x then u y else (if stored.contains y then u y else m₀ y)) → News h₀ env.locals h [(C, c)] → Q .next { s with heap := h, toks := tk }) :
    wpAny (model prog w) A (pyIter (.ref r)) (fun it s₂ => LoopAtV prog w A h₀ env x body Q E it s₂) E s := by
  refine kst_range (σ := Obj) (cellLed C) (fun _ => []) cellSays stored (fun _ _ => True) o₀ hh hr (small_one (by omega) (by omega) (by omega) (by omega)) (rangeSize_nat _ _) F N ho (fun _ hp => nomatch hp) trivial ?_ ?_
  · intro c pre k t u h tk own e1 e2 ho hc _ F' N'
    exact turn c pre k t u h tk own (by omega) (by omega) ho hc F' N'
  · intro c u h tk hc _ F' N'
    exact done c u h tk hc F' N'
end

theorem off_apart {I C D src : Addr} {S oI oC oD : Obj} {r : Led} (h : LCg.Off3 I C D ((src, S) :: r)) (hr : ∀ p ∈ r, p.1 ≠ src) : ∀ p ∈ ((I, oI) :: (C, oC) :: (D, oD) :: r : Led), p.1 ≠ src :=
  List.forall_mem_cons.mpr ⟨fun e => h.1.1 e.symm, List.forall_mem_cons.mpr ⟨fun e => h.1.2.1 e.symm, List.forall_mem_cons.mpr ⟨fun e => h.1.2.2 e.symm, hr⟩⟩⟩
theorem sub_num {prog : Program} {w : World} {A : Around} {E : Value → Shared → Prop} {s : Shared} {h₀ : Heap} {L D : Addr} {news : Led} {a b c k : Int} {ta tb tc t : Tok} {value slice : PySem.Expr} {Q : Value → Shared → Prop}
    (N : News h₀ L s.heap news) (hm : (D, LCg.lst [Value.int a ta, Value.int b tb, Value.int c tc]) ∈ news) (h0 : 0 ≤ k) (h3 : k < 3)
    (ha : -9223372036854775808 ≤ a ∧ a ≤ 9223372036854775807) (hb : -9223372036854775808 ≤ b ∧ b ≤ 9223372036854775807) (hc : -9223372036854775808 ≤ c ∧ c ≤ 9223372036854775807)
    (h : ∀ (d : Int) (u : Tok), -9223372036854775808 ≤ d → d ≤ 9223372036854775807 → Q (.int d u) s)
    (hs : subscripted slice false (.ref D) (.int k t) = operate [.ref D, .int k t] (getItem (.ref D) (.int k t)) := by with_unfolding_all rfl) :
    wpAny (model prog w) A (subscriptTail value slice (.ref D) (.int k t)) Q E s := by
  have hl : s.heap.IsList D [Value.int a ta, Value.int b tb, Value.int c tc].toArray := ⟨_, (N _ hm).1, rfl, _, rfl⟩
  have hk : k = 0 ∨ k = 1 ∨ k = 2 := by omega
  rcases hk with rfl | rfl | rfl
  · exact tail_any hl.typeIs slot_list_getitem.lookup (wpAny_getItem_list hl (by decide) (by decide) rfl (h _ _ ha.1 ha.2)) hs
  · exact tail_any hl.typeIs slot_list_getitem.lookup (wpAny_getItem_list hl (by decide) (by decide) rfl (h _ _ hb.1 hb.2)) hs
  · exact tail_any hl.typeIs slot_list_getitem.lookup (wpAny_getItem_list hl (by decide) (by decide) rfl (h _ _ hc.1 hc.2)) hs
theorem cell_end {h₀ : Heap} {L C : Addr} {x : PySem.Str} {stored : List PySem.Str} {m₀ m' : PySem.Str → Option Value} {pre : List Int} {own : Led} {s₁ : Shared} {h' : Heap} {tk : Nat} {p q : Addr × Obj} {o : Obj} {v : Option Value}
    (F : Fr h₀ L h' m') (N : News h₀ L h' (p :: q :: (C, o) :: own)) (ho : o.data = .cell v) (hr : ∀ z, z ≠ x → (∀ p ∈ ([] : List (PySem.Str × Value)), z ≠ p.1) → stored.contains z = false → m' z = m₀ z) :
    InvEndN h₀ L (KstS (cellLed C) (fun _ => []) cellSays x stored m₀ (fun _ _ => True) pre) own [C] s₁ { s₁ with heap := h', toks := tk } :=
  kst_end o F N (fun y hy => by rw [List.mem_singleton.mp hy]; exact .tail _ (.tail _ (.head _))) (fun y hy => .tail _ (.tail _ (.tail _ hy))) rfl ⟨v, ho⟩ (fun _ hp => nomatch hp) hr trivial
theorem comp_end {h₀ : Heap} {L I C D : Addr} {m : PySem.Str → Option Value} {s₁ : Shared} {oI oC oD : Obj} {rest : Value → Led → Prop} {y : Value} {h' : Heap} {tk : Nat} {p : Addr × Obj} {r : Led}
    (F : Fr h₀ L h' m) (N : News h₀ L h' (p :: (I, oI) :: (C, oC) :: (D, oD) :: r)) (off : LCg.Off3 I C D (p :: r)) (q : rest y (p :: r)) :
    LCg.CompEnd h₀ L m s₁ I oI C oC D oD (fun _ => True) rest y { s₁ with heap := h', toks := tk } :=
  LCg.CompEnd.intro F N (p :: r) (fun x hx => by
    simp only [List.mem_cons] at hx ⊢
    rcases hx with hx | hx | hx | hx | hx
    · exact .inr (.inl hx)
    · exact .inr (.inr (.inl hx))
    · exact .inr (.inr (.inr (.inl hx)))
    · exact .inl hx
    · exact .inr (.inr (.inr (.inr hx)))) off trivial q

end Mine
open Mine
local macro_rules | `(tactic| k_all) => `(tactic| first | with_reducible assumption | kst_allNe)
local macro_rules | `(tactic| walk_at "call ref") => `(tactic| (k_here; (with_reducible show wpAny _ _ (call (Value.ref 184) _) _ _ _); k_dflt (refine' DoesB.use (pool_does _ _ _ _ _ _ _ ?r1 ?r2 ?r3 ?r4 ?r5) ?k1 ?k2 ?k3 ?k4 ?k5 ?kK ?kd ?ku ?kl ?_; walk_at "mine claims"; (case kl => first | assumption | fail "kl"); (case r1 => first | assumption | fail "r1"); (case r2 => first | lay_of | fail "r2"); (case r3 => first | omega | fail "r3"); (case r4 => first | omega | fail "r4"); (case r5 => first | omega | fail "r5"); k_whole); intro v9 news9 h9 tk9 R9 F9 N9; obtain ⟨src, x', tx', y', ty', e9, hx', hy', hy2', l1, f9⟩ := R9; subst e9; subst f9; (try k_lt l1); (try dsimp only); (try k_sweep); (try k_fold)))
local macro_rules | `(tactic| walk_at "call ref") => `(tactic| (k_here; (with_reducible show wpAny _ _ (call (Value.ref 205) _) _ _ _); k_dflt (refine' Does.use (number_does _ _ _ _ _ _ _ ?r1 ?r2 ?r3 ?r4) ?k1 ?k2 ?k3 ?k4 ?k5 ?kK ?kd ?ku ?_; walk_at "mine claims"; (case r1 => first | assumption | exact off_apart (by assumption) (by walk_at "mine offs") | fail "r1"); (case r2 => assumption); (case r3 => assumption); (case r4 => assumption); k_whole); intro v9 news9 h9 tk9 R9 F9 N9; obtain ⟨d, t, x', tx', y', ty', e9, hd0, hd1, hx', hy', hy2', f9⟩ := R9; subst e9; subst f9; (try dsimp only); (try k_sweep); (try k_fold)))
local macro_rules | `(tactic| walk_at "call ref") => `(tactic| (k_here; (with_reducible show wpAny _ _ (call (Value.ref 226) _) _ _ _); k_dflt (refine' Does.use (shifts_does _ _ _ _ _ _ _ _ _ ?r1 ?r2 ?r3 ?r4 ?r5 ?r6) ?k1 ?k2 ?k3 ?k4 ?k5 ?kK ?kd ?ku ?_; walk_at "mine claims"; (case r1 => first | assumption | walk_at "mine offs" | fail "r1"); (case r2 => assumption); (case r3 => assumption); (case r4 => assumption); (case r5 => first | assumption | omega | fail "r5"); (case r6 => first | assumption | omega | fail "r6"); k_whole); intro v9 news9 h9 tk9 R9 F9 N9; obtain ⟨x', tx', y', ty', e9, hx', hy', hy2', f9⟩ := R9; subst e9; subst f9; (try dsimp only); (try k_sweep); (try k_fold)))
local macro_rules | `(tactic| walk_at "call ref") => `(tactic| (k_here; (with_reducible show wpAny _ _ (call (Value.ref 233) _) _ _ _); k_dflt (refine' Does.use (bits_does _ _ _ _ _ _ ?r1 ?r2 ?r3 ?r4) ?k1 ?k2 ?k3 ?k4 ?k5 ?kK ?kd ?ku ?_; walk_at "mine claims"; (case r1 => first | assumption | omega | fail "r1"); (case r2 => first | assumption | omega | fail "r2"); (case r3 => first | assumption | omega | fail "r3"); (case r4 => first | assumption | omega | fail "r4"); k_whole); intro v9 news9 h9 tk9 R9 F9 N9; obtain ⟨e9, f9⟩ := R9; subst e9; subst f9; (try dsimp only); (try k_sweep); (try k_fold)))
local macro_rules | `(tactic| walk_at "exec Assign cons ListComp") => `(tactic| (k_here; k_dflt (refine LCg.Assign_ListComp_U (F₀ := by k_asm) (by rfl) (by with_unfolding_all rfl) (by with_unfolding_all rfl) (by decide) (by rfl) (by decide) (by rfl) (by rfl) (by rfl) ?_); k_dflt lcg_toSrc))
local macro_rules | `(tactic| walk_at "CompSrc") => `(tactic| (k_here; k_dflt (refine LCg.CompSrc.range (by rfl) (by k_asm) (by k_asm) (by assumption) (by first | decide | rfl) (by first | rfl | decide) (by first | size_fits | exact Nat.le_of_ble_eq_true rfl) ?_; intro g'; lcg_lit)))
local macro_rules | `(tactic| walk_at "CompRest") => `(tactic| (with_unfolding_all first
  | (refine LCg.CompRest.succ ?_; intro v' I' oI' C' oC' D' m' h' tk' E' hv' hC' hx' F' N' off' ne'; obtain ⟨t9', hv9'⟩ := hv'; subst hv9')
  | refine LCg.CompRest.zero ?_))
local macro_rules | `(tactic| walk_at "CompEnd") => `(tactic| (k_dflt (refine' comp_end ?kF ?kN ?kO ?_; (case kF => k_asm); (case kN => k_asm); (case kO => first | assumption | fail "off"))))
local macro_rules | `(tactic| walk_at "InvEndN") => `(tactic| (k_dflt (refine' cell_end ?kF ?kN ?kO ?kR; (case kF => k_asm); (case kN => k_asm); (case kO => assumption)); (case kR => kst_same)))
local macro_rules | `(tactic| walk_at "pyIter ref") => `(tactic| ((with_reducible show wpAny _ _ (pyIter (Value.ref _)) (fun it s₂ => LoopAtV _ _ _ _ _ (Str.ofString "at") _ _ _ it s₂) _ _); k_here; (rename Fr _ _ _ _ => lF'); (rename News _ _ _ _ => lN'); (rename IsRange _ _ _ _ _ _ _ _ => rgX); (with_unfolding_all refine' src_loop [] (by rfl) rgX lF' (news_rot lN') ?hr ?hx ?hy ?hz ?_ ?_); (case hr => walk_at "mine offs"); (case hx => assumption); (case hy => assumption); (case hz => assumption); (all_goals (clear lF' lN' rgX)); (all_goals (first | (intro x' tx' y' ty' pre k t u h tk own k0 k3 hOff hx' hy' hy2' F' N'; (try simp only [List.cons_append] at hOff N'); try k_fold) | (intro x' tx' y' ty' u h tk hx' hy' hy2' F' N'; try k_fold)))))
local macro_rules | `(tactic| walk_at "InvEndN") => `(tactic| (k_dflt (refine' src_end ?kF ?kN ?kx ?ky ?kz ?kR; (case kF => k_asm); (case kN => k_asm); (case kx => assumption); (case ky => assumption); (case kz => assumption)); (case kR => kst_same)))
local macro_rules | `(tactic| walk_at "subscriptTail Name Name ref int") => `(tactic| (k_here; k_dflt (refine' sub_num ?k1 ?k2 ?k3 ?k4 ?k5 ?k6 ?k7 ?_ ?k8; (case k1 => k_asm); (case k2 => k_mem); (case k3 => omega); (case k4 => omega); (case k5 => omega); (case k6 => omega); (case k7 => omega); (case k8 => with_unfolding_all rfl); k_whole); intro d' u' hd' hd2'))
set_option maxHeartbeats 8000000 in
theorem PySem.Challenge.cw_nt0100_01_holds : PySem.Challenge.rw_nt0100_01.Holds := by
  w_top off
  refine Mine.hd ?_
  k_with "pyIter ref" => ((with_reducible show wpAny _ _ (pyIter (Value.ref _)) (fun it s₂ => LoopAtV _ _ _ _ _ (Str.ofString "k") _ _ _ it s₂) _ _); k_here; (rename Fr _ _ _ _ => lF'); (rename News _ _ _ _ => lN'); (rename IsRange _ _ _ _ _ _ _ _ => rgX); (with_unfolding_all refine' kst_cell [Str.ofString "source", Str.ofString "numbers", Str.ofString "at"] (by rfl) rgX ?hb lF' lN' ⟨_, by assumption⟩ ?_ ?_); (case hb => constructor <;> (repeat' split) <;> omega); (all_goals (clear lF' lN')); (all_goals (first | (intro c pre k t u h tk own k0 k3 kOff hc F' N'; obtain ⟨v, hv⟩ := hc; have hOff := OwnOff.ne kOff (List.Mem.head _); clear kOff; try k_fold) | (intro c u h tk hc F' N'; try k_fold))))
  k_go0
  all_goals try k_fold
  k_steps
