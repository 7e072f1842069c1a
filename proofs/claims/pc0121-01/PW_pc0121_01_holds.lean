import PyProof.Rows.All
import Wide.All
import OpenK.AllK
import Wide.FinOn
import KE.RegKTryDeep
import Lean
import PySem.Challenge.RW_pc0121_01
set_option Elab.async false

section
open PySem PySem.W PyProof.Rows
set_option maxRecDepth 100000
set_option maxHeartbeats 8000000
namespace Mine
open_top hd for PySem.Challenge.rw_pc0121_01
end Mine
end

section
namespace Mine
/-- |x| < 10^n -/
def Mag (n : Nat) (x : Int) : Prop := x.natAbs < 10 ^ n
theorem Mag.mono {n k : Nat} {x : Int} (h : Mag n x) (hk : n ≤ k) : Mag k x := Nat.lt_of_lt_of_le h (Nat.pow_le_pow_right (by decide) hk)
theorem Mag.mul {n k : Nat} {x y : Int} (h : Mag n x) (h' : Mag k y) : Mag (n + k) (x * y) := by
  unfold Mag at *
  rw [Int.natAbs_mul, Nat.pow_add]
  exact Nat.mul_lt_mul_of_lt_of_le h (Nat.le_of_lt h') (Nat.zero_lt_of_lt h')
theorem Mag.pow (k : Nat) : Mag (k + 1) ((10 : Int) ^ k) := by
  unfold Mag
  rw [Int.natAbs_pow]
  exact Nat.pow_lt_pow_right (by decide) (Nat.lt_succ_self k)
theorem Mag.neg {n : Nat} {x : Int} (h : Mag n x) : Mag n (-x) := by unfold Mag at *; rwa [Int.natAbs_neg]
theorem Mag.le {n : Nat} {x y : Int} (h : Mag n x) (hy : y.natAbs ≤ x.natAbs) : Mag n y := Nat.lt_of_le_of_lt hy h
theorem ten_le (n : Nat) : 10 ^ n ≤ 2 ^ (4 * n) := by
  rw [Nat.pow_mul]
  exact Nat.pow_le_pow_left (by decide) n
theorem Mag.log2 {n : Nat} {x : Int} (h : Mag n x) (hn : n ≤ 2000) : x.natAbs.log2 < 9000 := by
  by_cases h0 : x.natAbs = 0
  · rw [h0]; decide
  · have h1 : x.natAbs < 2 ^ 8000 := Nat.lt_of_lt_of_le h (Nat.le_trans (ten_le n) (Nat.pow_le_pow_right (by decide) (by omega)))
    have h2 := (Nat.log2_lt h0).mpr h1
    omega
theorem Mag.bits {n : Nat} {x : Int} (h : Mag n x) (hn : n ≤ 2000) : PySem.Builtin.Int.intBits x ≤ 2 ^ 20 := by
  have := h.log2 hn
  unfold PySem.Builtin.Int.intBits
  split <;> omega
theorem Mag.ok {n k : Nat} {x y : Int} (h : Mag n x) (h' : Mag k y) (hn : n ≤ 2000) (hk : k ≤ 2000) : PySem.IntMulOk x y := PySem.IntMulOk.of_bits (h.bits hn) (h'.bits hk)

theorem abs_ite (x : Int) : (if x < 0 then -x else x) = ((x.natAbs : Nat) : Int) := by split <;> omega
theorem tdiv_cut (t b : Int) (h : (decide (t < 0) != decide (b < 0)) = true) : -((t.natAbs : Nat) : Int).fdiv ((b.natAbs : Nat) : Int) = t.tdiv b := by
  rw [Int.fdiv_eq_ediv_of_nonneg _ (by omega)]
  by_cases ht : t < 0 <;> by_cases hb : b < 0 <;> simp [ht, hb] at h
  · obtain ⟨n, rfl⟩ : ∃ n : Nat, t = -(n : Int) := ⟨t.natAbs, by omega⟩
    obtain ⟨k, rfl⟩ : ∃ n : Nat, b = (n : Int) := ⟨b.natAbs, by omega⟩
    rw [Int.neg_tdiv, Int.tdiv_eq_ediv_of_nonneg (by omega)]
    simp
  · obtain ⟨n, rfl⟩ : ∃ n : Nat, t = (n : Int) := ⟨t.natAbs, by omega⟩
    obtain ⟨k, rfl⟩ : ∃ n : Nat, b = -(n : Int) := ⟨b.natAbs, by omega⟩
    rw [Int.tdiv_neg, Int.tdiv_eq_ediv_of_nonneg (by omega)]
    simp
theorem tdiv_cut' (t b : Int) (h : (decide (t < 0) != decide (b < 0)) = false) : ((t.natAbs : Nat) : Int).fdiv ((b.natAbs : Nat) : Int) = t.tdiv b := by
  rw [Int.fdiv_eq_ediv_of_nonneg _ (by omega)]
  by_cases ht : t < 0 <;> by_cases hb : b < 0 <;> simp [ht, hb] at h
  · obtain ⟨n, rfl⟩ : ∃ n : Nat, t = -(n : Int) := ⟨t.natAbs, by omega⟩
    obtain ⟨k, rfl⟩ : ∃ n : Nat, b = -(n : Int) := ⟨b.natAbs, by omega⟩
    rw [Int.neg_tdiv, Int.tdiv_neg, Int.tdiv_eq_ediv_of_nonneg (by omega)]
    simp
  · obtain ⟨n, rfl⟩ : ∃ n : Nat, t = (n : Int) := ⟨t.natAbs, by omega⟩
    obtain ⟨k, rfl⟩ : ∃ n : Nat, b = (n : Int) := ⟨b.natAbs, by omega⟩
    rw [Int.tdiv_eq_ediv_of_nonneg (by omega)]
    simp
theorem law_cut_neg (t b : Int) (ht : t < 0) (hb : 0 < b) : -((-t).fdiv b) = t.tdiv b := by
  rw [Int.fdiv_eq_ediv_of_nonneg _ (by omega)]
  obtain ⟨n, rfl⟩ : ∃ n : Nat, t = -(n : Int) := ⟨t.natAbs, by omega⟩
  obtain ⟨k, rfl⟩ : ∃ n : Nat, b = (n : Int) := ⟨b.natAbs, by omega⟩
  rw [Int.neg_tdiv, Int.tdiv_eq_ediv_of_nonneg (by omega)]
  simp
theorem law_cut_pos (t b : Int) (ht : 0 ≤ t) (hb : 0 < b) : t.fdiv b = t.tdiv b := by
  rw [Int.fdiv_eq_ediv_of_nonneg _ (by omega)]
  obtain ⟨n, rfl⟩ : ∃ n : Nat, t = (n : Int) := ⟨t.natAbs, by omega⟩
  obtain ⟨k, rfl⟩ : ∃ n : Nat, b = (n : Int) := ⟨b.natAbs, by omega⟩
  rw [Int.tdiv_eq_ediv_of_nonneg (by omega)]
theorem law_cut_abs (t b : Int) : Int.tdiv (if b > 0 then t else -t) ((b.natAbs : Nat) : Int) = t.tdiv b := by
  by_cases h : b > 0
  · rw [if_pos h, Int.natAbs_of_nonneg (by omega)]
  · rw [if_neg h, show ((b.natAbs : Nat) : Int) = -b by omega, Int.neg_tdiv, Int.tdiv_neg, Int.neg_neg]
theorem tdiv_natAbs_le (t b : Int) : (t.tdiv b).natAbs ≤ t.natAbs := by
  rw [Int.natAbs_tdiv]
  exact Nat.div_le_self _ _

/-- the noughts at the end struck, at most n -/
noncomputable def strip (u : Int) : Nat → Int × Int
  | 0 => (u, 0)
  | n + 1 => if u % 10 = 0 then strip (u / 10) n else (u, ((n + 1 : Nat) : Int))
noncomputable def dec (u s : Int) : Int × Int := if s < 0 then (u * 10 ^ (-s).toNat, 0) else strip u s.toNat
theorem strip_stop {u s : Int} (hs : 0 ≤ s) (h : ¬ (0 < s ∧ u % 10 = 0)) : strip u s.toNat = (u, s) := by
  obtain ⟨n, rfl⟩ : ∃ n : Nat, s = (n : Int) := ⟨s.toNat, by omega⟩
  rw [Int.toNat_natCast]
  cases n with
  | zero => rfl
  | succ n =>
    have : ¬ u % 10 = 0 := fun q => h ⟨by omega, q⟩
    simp [strip, this]
theorem strip_go {u s : Int} (hs : 0 < s) (h : u % 10 = 0) : strip u s.toNat = strip (u / 10) (s - 1).toNat := by
  obtain ⟨n, rfl⟩ : ∃ n : Nat, s = ((n + 1 : Nat) : Int) := ⟨(s - 1).toNat, by omega⟩
  rw [Int.toNat_natCast, show ((n + 1 : Nat) : Int) - 1 = (n : Int) by omega, Int.toNat_natCast]
  simp [strip, h]
theorem strip_bounds (n : Nat) : ∀ u : Int, (strip u n).1.natAbs ≤ u.natAbs ∧ 0 ≤ (strip u n).2 ∧ (strip u n).2 ≤ n ∧ (u ≠ 0 → (strip u n).1 ≠ 0) := by
  induction n with
  | zero => intro u; simp [strip]
  | succ n ih =>
    intro u
    unfold strip
    split
    · rename_i h
      obtain ⟨a, b, c, d⟩ := ih (u / 10)
      refine ⟨by omega, b, by omega, fun hu => d (by omega)⟩
    · exact ⟨Nat.le_refl _, by simp; omega, by simp, fun h => h⟩
theorem dec_nn {u s : Int} (hs : 0 ≤ s) : dec u s = strip u s.toNat := by unfold dec; rw [if_neg (by omega)]
theorem dec_bounds {u s : Int} (hs : 0 ≤ s) : (dec u s).1.natAbs ≤ u.natAbs ∧ 0 ≤ (dec u s).2 ∧ (dec u s).2 ≤ s ∧ (u ≠ 0 → (dec u s).1 ≠ 0) := by
  rw [dec_nn hs]
  obtain ⟨a, b, c, d⟩ := strip_bounds s.toNat u
  exact ⟨a, b, by omega, d⟩
end Mine
end

section
namespace Mine
open PyProof.Rows
theorem strip_acc {u c k : Int} (h1 : k ≤ c) (h2 : min c 0 ≤ k) (hc : ¬ c < 0)
    (hall : ∀ (j : Int), k < j → j ≤ c → (if 0 < j then if ((accDown (fun _ x => x.fdiv 10) c u j).fmod 10 == 0) = true then true else false else false) = true)
    (hk : (if 0 < k then if ((accDown (fun _ x => x.fdiv 10) c u k).fmod 10 == 0) = true then true else false else false) = false) :
    (accDown (fun (_ : Int) (x : Int) => x.fdiv 10) c u k, k) = dec u c := by
  have key : ∀ n : Nat, (n : Int) ≤ c - k → strip u c.toNat = strip (accDown (fun (_ : Int) (x : Int) => x.fdiv 10) c u (c - n)) (c - n).toNat := by
    intro n
    induction n with
    | zero => intro _; rw [show c - ((0 : Nat) : Int) = c by omega, accDown_start]
    | succ n ih =>
      intro hn
      rw [ih (by omega)]
      have hj := hall (c - n) (by omega) (by omega)
      have h0 : 0 < c - (n : Int) := by split at hj; assumption; cases hj
      rw [if_pos h0] at hj
      have h10 : (accDown (fun (_ : Int) (x : Int) => x.fdiv 10) c u (c - n)) % 10 = 0 := by
        split at hj
        · rename_i q
          have q := beq_iff_eq.mp q
          rwa [Int.fmod_eq_emod_of_nonneg _ (by decide)] at q
        · cases hj
      rw [strip_go h0 h10, show c - ((n + 1 : Nat) : Int) = c - (n : Int) - 1 by omega, accDown_succ (by omega), Int.fdiv_eq_ediv_of_nonneg _ (by decide)]
  have e := key (c - k).toNat (by omega)
  rw [show c - (((c - k).toNat : Nat) : Int) = k by omega] at e
  rw [dec_nn (by omega), e, strip_stop (by omega)]
  rintro ⟨q1, q2⟩
  rw [if_pos q1, Int.fmod_eq_emod_of_nonneg _ (by decide), q2] at hk
  simp at hk
theorem strip_turn {u s u0 c : Int} (h0 : 0 < s) (h : u.fmod 10 = 0) (e : strip u s.toNat = strip u0 c.toNat) : 0 ≤ s - 1 ∧ strip (u.fdiv 10) (s - 1).toNat = strip u0 c.toNat := by
  rw [Int.fmod_eq_emod_of_nonneg _ (by decide)] at h
  refine ⟨by omega, ?_⟩
  rw [← e, strip_go h0 h, Int.fdiv_eq_ediv_of_nonneg _ (by decide)]
theorem strip_end1 {u s u0 c : Int} (hc : ¬ c < 0) (h0 : 0 ≤ s) (h : u.fmod 10 ≠ 0) (e : strip u s.toNat = strip u0 c.toNat) : (u, s) = dec u0 c := by
  rw [Int.fmod_eq_emod_of_nonneg _ (by decide)] at h
  rw [dec_nn (by omega), ← e, strip_stop h0 (fun q => h q.2)]
theorem strip_end2 {u s u0 c : Int} (hc : ¬ c < 0) (h0 : 0 ≤ s) (h : ¬ 0 < s) (e : strip u s.toNat = strip u0 c.toNat) : (u, s) = dec u0 c := by
  rw [dec_nn (by omega), ← e, strip_stop h0 (fun q => h q.1)]
end Mine
end

section
namespace Mine
noncomputable def quo (a b : Int × Int) (many : Int) : Option (Int × Int) := if b.1 = 0 then none else some (dec (Int.tdiv (a.1 * 10 ^ (many + b.2).toNat) (b.1 * 10 ^ a.2.toNat)) many)
/-- a decimal within bounds: its units below 10^n, its scale from 0 to 100 -/
structure Ok (n : Nat) (a : Int × Int) : Prop where
  mag : Mag n a.1
  lo : 0 ≤ a.2
  hi : a.2 ≤ 100
theorem pow_ne (k : Nat) : (10 : Int) ^ k ≠ 0 := by
  intro h
  have := Int.pow_pos (n := (10 : Int)) (m := k) (by decide)
  omega
theorem mag_pow {k n : Nat} (h : k < n) : Mag n ((10 : Int) ^ k) := (Mag.pow k).mono h
theorem Mag.abs {n : Nat} {x : Int} (h : Mag n x) : Mag n ((x.natAbs : Nat) : Int) := by unfold Mag at *; rwa [Int.natAbs_natCast]
theorem Mag.tdiv {n : Nat} {x y : Int} (h : Mag n x) : Mag n (x.tdiv y) := h.le (tdiv_natAbs_le x y)
theorem quo_none {a b : Int × Int} {many : Int} (h : b.1 = 0) : quo a b many = none := if_pos h
theorem quo_some {a b : Int × Int} {many : Int} (h : b.1 ≠ 0) : quo a b many = some (dec (Int.tdiv (a.1 * 10 ^ (many + b.2).toNat) (b.1 * 10 ^ a.2.toNat)) many) := if_neg h
theorem lcut_p {t b : Int} (hb : 0 < b) : t.tdiv ((b.natAbs : Nat) : Int) = t.tdiv b := by rw [Int.natAbs_of_nonneg (by omega)]
theorem lcut_n {t b : Int} (hb : ¬ 0 < b) : (-t).tdiv ((b.natAbs : Nat) : Int) = t.tdiv b := by rw [show ((b.natAbs : Nat) : Int) = -b by omega, Int.neg_tdiv, Int.tdiv_neg, Int.neg_neg]
theorem quo_p {a0 a1 b0 b1 many : Int} (h : b0 ≠ 0) (hb : 0 < b0 * 10 ^ a1.toNat) :
    quo (a0, a1) (b0, b1) many = some ((dec ((a0 * 10 ^ (b1 + many).toNat).tdiv (((b0 * 10 ^ a1.toNat).natAbs : Nat) : Int)) many).1, (dec ((a0 * 10 ^ (b1 + many).toNat).tdiv (((b0 * 10 ^ a1.toNat).natAbs : Nat) : Int)) many).2) := by
  rw [quo_some h, lcut_p hb, Int.add_comm b1 many]
theorem quo_n {a0 a1 b0 b1 many : Int} (h : b0 ≠ 0) (hb : ¬ 0 < b0 * 10 ^ a1.toNat) :
    quo (a0, a1) (b0, b1) many = some ((dec ((-(a0 * 10 ^ (b1 + many).toNat)).tdiv (((b0 * 10 ^ a1.toNat).natAbs : Nat) : Int)) many).1, (dec ((-(a0 * 10 ^ (b1 + many).toNat)).tdiv (((b0 * 10 ^ a1.toNat).natAbs : Nat) : Int)) many).2) := by
  rw [quo_some h, lcut_n hb, Int.add_comm b1 many]
/-- a product kept: cut to thirty places, at most 120 figures -/
def keepU (u s : Int) : Int := if 30 < s then u.tdiv (10 ^ (s - 30).toNat) else u
def keepS (s : Int) : Int := if 30 < s then 30 else s
noncomputable def keep (u s : Int) : Option (Int × Int) := if (keepU u s).natAbs < 10 ^ 120 then some (dec (keepU u s) (keepS s)) else none
theorem keep_cut {u s : Int} (hs : 30 < s) (h : (u.tdiv (10 ^ (s - 30).toNat)).natAbs < 10 ^ 120) : keep u s = some (dec (u.tdiv (10 ^ (s - 30).toNat)) 30) := by
  unfold keep keepU keepS; rw [if_pos hs, if_pos hs, if_pos h]
theorem keep_cutN {u s : Int} (hs : 30 < s) (h : ¬ (u.tdiv (10 ^ (s - 30).toNat)).natAbs < 10 ^ 120) : keep u s = none := by
  unfold keep keepU keepS; rw [if_pos hs, if_neg h]
theorem keep_as {u s : Int} (hs : ¬ 30 < s) (h : u.natAbs < 10 ^ 120) : keep u s = some (dec u s) := by
  unfold keep keepU keepS; rw [if_neg hs, if_neg hs, if_pos h]
theorem keep_asN {u s : Int} (hs : ¬ 30 < s) (h : ¬ u.natAbs < 10 ^ 120) : keep u s = none := by
  unfold keep keepU keepS; rw [if_neg hs, if_neg h]
theorem keep_ok {u s : Int} {p : Int × Int} (hs : 0 ≤ s) (h : keep u s = some p) : Ok 120 p ∧ p.2 ≤ 30 := by
  unfold keep at h
  split at h
  · rename_i hk
    cases h
    have h0 : 0 ≤ keepS s := by unfold keepS; split <;> omega
    have h3 : keepS s ≤ 30 := by unfold keepS; split <;> omega
    obtain ⟨a, b, c, _⟩ := dec_bounds (u := keepU u s) h0
    exact ⟨⟨Nat.lt_of_le_of_lt a hk, b, by omega⟩, by omega⟩
  · cases h
end Mine
end

section
open PySem PySem.W PySem.Spec PySem.Calls PyProof.Rows
namespace Mine
abbrev Led := List (Addr × Obj)
abbrev Ret := Heap → Addr → (Str → Option Value) → Led → Shared → (Value → Shared → Prop) → Prop
abbrev RetI (x : Int) : Ret := fun h₀ L m news s Q => ∀ (t : Tok) (h' : Heap) (tk' : Nat), Fr h₀ L h' m → News h₀ L h' news → Q (.int x t) { s with heap := h', toks := tk' }
abbrev RetB (b : Bool) : Ret := fun h₀ L m news s Q => ∀ (h' : Heap) (tk' : Nat), Fr h₀ L h' m → News h₀ L h' news → Q (.bool b) { s with heap := h', toks := tk' }
abbrev tupO (x y : Int) (t u : Tok) (c : Nat) : Obj := { cls := .type "tuple", data := .seq #[.int x t, .int y u] c }
abbrev RetP (p : Int × Int) : Ret := fun h₀ L m news s Q => ∀ (r : Addr) (t u : Tok) (c : Nat) (h' : Heap) (tk' : Nat), Fr h₀ L h' m → News h₀ L h' ((r, tupO p.1 p.2 t u c) :: news) → (∀ q ∈ news, q.1 < r) → Q (.ref r) { s with heap := h', toks := tk' }
abbrev CallS (pr : Program) (K : World → Frag) (d : Nat) (f : Value) (news : Led) (vs : List Value) (R : Ret) : Prop :=
  ∀ (w : World) (p : Program) (loose : List Str) (mean : ExcName → Option Value) (mg mb : Str → Option Value) (dp un : Nat) (gd : Option (List Code)) (cn : Str) (cs : Scope) (a : Addr) (ccd : Value) (cl : List (Str × Addr)) (outer : List Env) (A₀ : Around) (base h₀ : Heap) (L : Addr) (m : Str → Option Value) (s : Shared) (Q E : Value → Shared → Prop),
    Below A₀ base outer h₀ → Fr h₀ L s.heap m → (K w).In h₀ → News h₀ L s.heap news → Top p loose mean mg mb h₀ → cs.kind = .function → dp + d < recursionLimit → un + 10 * d < cLine → R h₀ L m news s Q →
      wpAny (model pr w) (ktrTop dp un gd cn cs L a ccd cl outer) (call f vs) Q E s

abbrev RetN : Ret := fun h₀ L m news s Q => ∀ (h' : Heap) (tk' : Nat), Fr h₀ L h' m → News h₀ L h' news → Q .none { s with heap := h', toks := tk' }
abbrev RetO (o : Option (Int × Int)) : Ret := fun h₀ L m news s Q => (o = none → RetN h₀ L m news s Q) ∧ ∀ p, o = some p → RetP p h₀ L m news s Q
theorem use_call {pr : Program} {K : World → Frag} {d : Nat} {f : Value} {news : Led} {vs : List Value} {R : Ret} {w : World} {p : Program} {loose : List Str} {mean : ExcName → Option Value} {mg mb : Str → Option Value} {dp un : Nat} {gd : Option (List Code)} {cn : Str} {cs : Scope} {a : Addr} {ccd : Value} {cl : List (Str × Addr)} {outer : List Env} {A₀ : Around} {base h₀ : Heap} {L : Addr} {m : Str → Option Value} {s : Shared} {Q E : Value → Shared → Prop}
    (C : CallS pr K d f news vs R) (B : Below A₀ base outer h₀) (F : Fr h₀ L s.heap m) (X : (K w).In h₀) (N : News h₀ L s.heap news) (T : Top p loose mean mg mb h₀) (hk : cs.kind = .function) (hd : dp + d < recursionLimit) (hu : un + 10 * d < cLine) (hR : R h₀ L m news s Q) :
    wpAny (model pr w) (ktrTop dp un gd cn cs L a ccd cl outer) (call f vs) Q E s := C _ _ _ _ _ _ _ _ _ _ _ _ _ _ _ _ _ _ _ _ _ _ _ B F X N T hk hd hu hR

section
variable {h₀ h' : Heap} {L : Addr} {m : Str → Option Value} {news news' : Led} {s : Shared} {Q : Value → Shared → Prop} {t : Tok} {tk' : Nat}
theorem ret_I {x y : Int} (hret : RetI x h₀ L m news s Q) (e : y = x) (F : Fr h₀ L h' m) (N : News h₀ L h' news) : Q (.int y t) { s with heap := h', toks := tk' } := e ▸ hret t h' tk' F N
theorem ret_B {x y : Bool} (hret : RetB x h₀ L m news s Q) (e : y = x) (F : Fr h₀ L h' m) (N : News h₀ L h' news) : Q (.bool y) { s with heap := h', toks := tk' } := e ▸ hret h' tk' F N
theorem ret_P {p : Int × Int} {x y : Int} {r : Addr} {tx ty : Tok} {c : Nat} (hret : RetP p h₀ L m news s Q) (e : (x, y) = p) (F : Fr h₀ L h' m) (N : News h₀ L h' news') (hr : (r, tupO x y tx ty c) ∈ news') (hn : ∀ q ∈ news, q ∈ news') (hl : ∀ q ∈ news, q.1 < r) :
    Q (.ref r) { s with heap := h', toks := tk' } := by
  subst e
  refine hret r tx ty c h' tk' F (fun q hq => ?_) hl
  rcases List.mem_cons.mp hq with rfl | hq
  · exact N _ hr
  · exact N _ (hn q hq)
theorem ret_N {o : Option (Int × Int)} (hret : RetO o h₀ L m news s Q) (e : o = none) (F : Fr h₀ L h' m) (N : News h₀ L h' news) : Q .none { s with heap := h', toks := tk' } := hret.1 e h' tk' F N
theorem ret_S {o : Option (Int × Int)} {x y : Int} {r : Addr} {tx ty : Tok} {c : Nat} (hret : RetO o h₀ L m news s Q) (e : o = some (x, y)) (F : Fr h₀ L h' m) (N : News h₀ L h' news') (hr : (r, tupO x y tx ty c) ∈ news') (hn : ∀ q ∈ news, q ∈ news') (hl : ∀ q ∈ news, q.1 < r) :
    Q (.ref r) { s with heap := h', toks := tk' } := ret_P (hret.2 _ e) rfl F N hr hn hl
end
section
variable {prog : Program} {w : World} {A : Around} {E : Value → Shared → Prop} {s : Shared} {a : Int} {t : Tok} {Q : Value → Shared → Prop}
theorem call_abs_nat (h : ∀ u tk, Q (.int ((a.natAbs : Nat) : Int) u) { s with toks := tk }) : wpAny (model prog w) A (call (.builtin "abs") [.int a t]) Q E s := by
  refine call_abs_int fun u tk => ?_
  rw [abs_ite]
  exact h u tk
end
end Mine
end

section
open PySem PySem.W
open Sem (wp)
set_option maxRecDepth 100000
namespace Mine
abbrev sfRow : List Value := [.ref 40, .type "Exception", .type "BaseException", .type "object"]
section
variable {prog : Program} {w : World} {A : Around} {E : Value → Shared → Prop} {h : Heap} {g : Array GenState} {d : Drawn} {t : Nat} {os : OsState}
variable {nm q : Str} {N : Addr} {bs : List Value} {sn : List Str} {sub : List Value} {ab : Bool} {col : Option Bool} {dd : Option Addr} {k0 k1 k2 k3 k5 : Option Value}
abbrev SfObj (nm q : Str) (N : Addr) (bs : List Value) (sn : List Str) (sub : List Value) (ab : Bool) (col : Option Bool) (dd : Option Addr) (k0 k1 k2 k3 k5 : Option Value) : Obj :=
  excClassObj nm q 53 N bs sfRow true sn sub ab col dd k0 k1 k2 k3 k5 "Exception.__new__"
theorem sf_has : (Value.ref 53 :: sfRow).contains (.type "Exception") = true := by rfl
theorem sf_hasB : (Value.ref 53 :: sfRow).contains (.type "BaseException") = true := by rfl
theorem sf_hasA : (Value.ref 53 :: sfRow).contains (.type "AttributeError") = false := by rfl
theorem sf_hasN : (Value.ref 53 :: sfRow).contains (.type "NameError") = false := by rfl
theorem sf_hasS : (Value.ref 53 :: sfRow).contains (.ref 53) = true := by rfl

theorem sf_new {R : Result → Shared → Prop} {rest : List Value} (hC : h.get? 53 = some (SfObj nm q N bs sn sub ab col dd k0 k1 k2 k3 k5)) (hrest : rest.length ≤ sizeLine)
    (hq : R (.ok (.ret (.ref (h.objs.size + 1)))) ⟨(h.push { cls := .type "tuple", data := .seq rest.toArray }).push { cls := .ref 53, data := .fields #[.ref h.objs.size, .none, .none, .none, .bool false, .none] }, g, d, t, os⟩) :
    codeAny (model prog w) A (.builtin "Exception.__new__" ⟨.ref 53 :: rest, []⟩) R ⟨h, g, d, t, os⟩ := by
  have Fn := PySem.F.excBase_Exception
  have hends := Fn.ends
  refine codeAny_builtinAt Fn.entry ?_
  unfold Builtin.«BaseException.__new__»
  refine wpAt_bind ?_
  show wpAt _ _ _ (stack >>= _) _ _ _
  refine wpAt_bind (wpAt_stack fun p below => wpAt_of_wpAny ?_)
  wp_walk
  refine wpAt_of_wpAny ?_
  rw [Fn.owner]
  repeat (first | with_reducible refine wpAny_madeHere_exc Fn.canon hC ?_ | with_reducible refine wpAny_loadPart_at hC ?_ | (with_reducible refine wpAny_isSubtype_exc hC ?_; first | rw [sf_has] | rw [sf_hasA] | rw [sf_hasN]) | wp_step)
  show R _ _
  rw [Heap.size_push]
  exact hq

/-- the heap behind the making of a SizeFault -/
abbrev sfHeap (h : Heap) (rest : List Value) : Heap :=
  (h.push { cls := .type "tuple", data := .seq rest.toArray }).push { cls := .ref 53, data := .fields #[.ref h.objs.size, .none, .none, .none, .bool false, .none] }
theorem sf_type_call {K : Frag} {rest : List Value} {Q : Fin → Shared → Prop} (X : K.In h) (hC : h.get? 53 = some (SfObj nm q N bs sn sub ab col dd k0 k1 k2 k3 k5)) (hrest : rest.length ≤ sizeLine)
    (hi : findIn K (.ref 53) "__init__" = some (some (.ref 30))) (hf : typeIn K (.ref 30) = some (.type "function"))
    (hq : wpAny (model prog w) A (call (.ref 30) (.ref (h.objs.size + 1) :: rest)) (fun r s' => r = .none ∧ Q (.done (.ret (.ref (h.objs.size + 1)))) s') E ⟨sfHeap h rest, g, d, t, os⟩) :
    wpAny (model prog w) A (Builtin.«type.__call__» ⟨.ref 53 :: rest, []⟩) Q E ⟨h, g, d, t, os⟩ := by
  repeat (first | with_reducible refine wpAny_loadPart_at hC ?_ | with_reducible refine wpAny_madeBy_exc hC ?_ | wp_step)
  refine codeAny_call_builtin_code (Code.quiet_builtin _ (PySem.F.excBase_Exception).quiet) ?_
  have hchk : ∀ {A : Around} {Q : Unit → Shared → Prop} {E : Value → Shared → Prop}, Q () ⟨h, g, d, t, os⟩ → wpAny (model prog w) A (checkBuiltinCall "Exception.__new__" ⟨.ref 53 :: rest, []⟩) Q E ⟨h, g, d, t, os⟩ := by
    intro A Q E hq
    have F := PySem.F.excBase_Exception
    have hstar := F.noStar
    simp only [checkBuiltinCall, F.newKind, F.newSplit, F.newRow]
    repeat (first | refine wpAny_loadPart_at hC ?_ | (refine wpAny_isSubtype_exc hC ?_; rw [sf_has]) | refine wpAny_staticBase_exc hC ?_ | refine wpAny_madeBy_exc hC ?_ | simp only [bne_self_eq_false, Bool.false_eq_true, if_false] | wp_step)
    exact hq
  refine hchk ?_
  refine sf_new hC hrest ?_
  show wpAny _ _ _ _ _ _
  have kk : ∀ b o, h.get? b = some o → (sfHeap h rest).get? b = some o := fun b o e => Heap.get?_push_of_some _ (Heap.get?_push_of_some _ e)
  have hC₁ := kk _ _ hC
  have hget : (sfHeap h rest).get? (h.objs.size + 1) = some { cls := .ref 53, data := .fields #[.ref h.objs.size, .none, .none, .none, .bool false, .none] } := by unfold sfHeap; heap_get
  unfold isInstance
  repeat (first | with_reducible refine wpAny_loadPart_at hget ?_ | (with_reducible refine wpAny_isSubtype_exc hC₁ ?_; rw [sf_hasS]) | wp_step)
  show wpAny _ _ (typeLookup (.ref 53) _) _ _ _
  refine (looks_findIn (M := model prog w) (X.keeps kk) hi).at ?_
  refine wpAny_holding (wpAny_bind ?_)
  refine (bind_fn (M := model prog w) (X.keeps kk) (.ref (h.objs.size + 1)) hf).at ?_
  refine wpAny_bind (wpAny_mono hq (fun r s' hr => ?_) fun _ _ x => x)
  obtain ⟨rfl, hQ⟩ := hr
  wp_walk
  exact hQ

theorem sf_call {K : Frag} {rest : List Value} {Q : Value → Shared → Prop} (X : K.In h) (hC : h.get? 53 = some (SfObj nm q N bs sn sub ab col dd k0 k1 k2 k3 k5)) (hrest : rest.length ≤ sizeLine)
    (hi : findIn K (.ref 53) "__init__" = some (some (.ref 30))) (hf : typeIn K (.ref 30) = some (.type "function"))
    (hq : wpAny (model prog w) (A.under (.builtin "type.__call__" ⟨.ref 53 :: rest, []⟩)) (call (.ref 30) (.ref (h.objs.size + 1) :: rest)) (fun r s' => r = .none ∧ Q (.ref (h.objs.size + 1)) s') E ⟨sfHeap h rest, g, d, t, os⟩) :
    wpAny (model prog w) A (call (.ref 53) rest) Q E ⟨h, g, d, t, os⟩ := by
  have f1 := tc_lookup
  have f2 := tc_bind (.ref 53)
  have hT : (⟨h, g, d, t, os⟩ : Shared).TypeIs (.ref 53) "type" := ⟨_, hC, rfl⟩
  refine wpAny_call (codeAny_of_tree ?_)
  show wpAny _ _ (callAny (.ref 53) _) _ _ _
  repeat (any_goals (first | assumption | with_reducible refine wpAny_loadPart_at hC ?_ | wp_step))
  refine ⟨rfl, ?_⟩
  exact codeAny_call_builtin_at (Code.quiet_builtin _ (by decide +kernel)) entry_typeCall (wpAny_check_type_call_sub hC (sf_type_call X hC hrest hi hf hq))
theorem sf_check_init {M : Model} {e : Addr} {oe : Obj} {rest : List Value} {Q : Unit → Shared → Prop} (hC : h.get? 53 = some (SfObj nm q N bs sn sub ab col dd k0 k1 k2 k3 k5)) (he : h.get? e = some oe) (hcls : oe.cls = .ref 53)
    (hq : Q () ⟨h, g, d, t, os⟩) : wpAny M A (checkBuiltinCall "Exception.__init__" ⟨.ref e :: rest, []⟩) Q E ⟨h, g, d, t, os⟩ := by
  have F := PySem.F.excBase_Exception
  have hshort := F.noStar
  simp only [checkBuiltinCall, F.initKind, F.initSplit, F.initRow]
  repeat (first | (with_reducible refine wpAny_loadPart_at he ?_; rw [hcls]) | with_reducible refine wpAny_loadPart_at hC ?_ | (with_reducible refine wpAny_isSubtype_exc hC ?_; rw [sf_has]) | wp_step)
  refine wpAny_onRaise ?_
  rw [show ∀ (a b : String) (n : Nat), Bind.check ⟨.positional, "*", "Exception", .self, [⟨"args", .varPos, false⟩]⟩ a b n (List.map (fun x => x.fst) ({ pos := Value.ref e :: rest } : Args).kw) = pure () from
    fun a b n => check_star_args _ _ _ _ _ _]
  exact wpAny_pure hq
end
end Mine
end

section
open PySem PySem.W PySem.Calls PyProof.Rows
set_option maxRecDepth 100000
namespace Mine
abbrev sfO (a : Addr) (dd : Option Addr) : Obj := { cls := .ref 53, dict := dd, data := .fields #[.ref a, .none, .none, .none, .bool false, .none] }
section
variable {prog : Program} {w : World} {A : Around} {E : Value → Shared → Prop} {s : Shared} {K : Frag} {h₀ : Heap} {L e a : Addr} {dd : Option Addr} {m : Str → Option Value} {news : List (Addr × Obj)} {gg : Obj → List (Addr × Obj)} {rest : List Value}
  {nm qn : Str} {Nn : Addr} {bs : List Value} {sn : List Str} {sub : List Value} {ab : Bool} {col : Option Bool} {cdd : Option Addr} {k0 k1 k2 k3 k5 : Option Value}
theorem sf_base_init {Q : Value → Shared → Prop} (F : Fr h₀ L s.heap m) (N : News h₀ L s.heap news) (U : UpdF e (sfO a dd) news gg) (hrest : rest.length ≤ sizeLine)
    (hC : s.heap.get? 53 = some (SfObj nm qn Nn bs sn sub ab col cdd k0 k1 k2 k3 k5))
    (h : ∀ t' h', Fr h₀ L h' m → News h₀ L h' ((t', { cls := .type "tuple", data := .seq rest.toArray }) :: gg (sfO t' dd)) → (∀ p ∈ news, p.1 < t') → Q .none { s with heap := h' }) :
    wpAny (model prog w) A (call (.builtin "Exception.__init__") (.ref e :: rest)) Q E s := by
  have Fn := PySem.F.excBase_Exception
  obtain ⟨pre, post, rfl, hg, h1, h2⟩ := U.split
  have he := (N (e, sfO a dd) (List.mem_append_right _ (.head _))).1
  obtain ⟨hp, gn, dr, tk, os⟩ := s
  refine wpAny_call (codeAny_call_builtin Fn.init.plain Fn.initEntry (sf_check_init hC he rfl ?_))
  unfold Builtin.«BaseException.__init__»
  have F1 := F.push { cls := .type "tuple", data := .seq rest.toArray }
  have N1 := N.push F { cls := .type "tuple", data := .seq rest.toArray }
  have he1 := (N1 (e, sfO a dd) (.tail _ (List.mem_append_right _ (.head _)))).1
  have hlt : ∀ p ∈ pre ++ (e, sfO a dd) :: post, p.1 < hp.objs.size := fun p hp => Heap.lt_size (N p hp).1
  refine wpAny_bind (wpAny_newObj_type ?_ (by show rest.toArray.size ≤ sizeLine; rw [List.size_toArray]; exact hrest))
  unfold Builtin.BaseException.bexcPut
  refine wpAny_bind (wpAny_bind (wpAny_field he1 rfl (x := .ref a) rfl (wpAny_bind (wpAny_setField he1 rfl (show 0 < 6 by decide) ?_))))
  have U1 := news_upd (f := Obj.mapFields (·.setIfInBounds 0 (Value.ref hp.objs.size))) (o' := sfO hp.objs.size dd) (pre := (hp.objs.size, { cls := .type "tuple", data := .seq rest.toArray }) :: pre) F1 N1
    (fun p hp => by
      rcases List.mem_cons.mp hp with rfl | hp
      · exact Nat.ne_of_gt (hlt (e, sfO a dd) (List.mem_append_right _ (.head _)))
      · exact h1 p hp) h2 rfl rfl
  obtain ⟨F2, N2⟩ := U1
  have fin := h hp.objs.size _ F2 (by rw [hg]; exact N2) hlt
  refine wpAny_bind (wpAny_holding (wpAny_point (wpAny_pure (wpAny_pure ?_))))
  exact fin
end
end Mine
end

section
open PySem PySem.W PySem.Calls PyProof.Rows Builtin Builtin.ObjectAttr
set_option maxRecDepth 100000
namespace Mine
section
variable {prog : Program} {w : World} {A : Around} {E : Value → Shared → Prop} {s : Shared} {K : Frag} {h₀ : Heap} {L e a d : Addr} {dd : Option Addr} {m : Str → Option Value} {news : List (Addr × Obj)} {gg : Obj → List (Addr × Obj)} {R : Result → Shared → Prop}
  {ox : Obj} {od : Option Obj} {name : Str} {tk : Tok} {v : Value} {es : List DictEntry} {n : Nat}
def sfMro (K : Frag) : Bool := (clsIn K 53).any fun cd => cd.mro == .ref 53 :: sfRow && cd.hasDict
theorem sf_osa (X : K.In s.heap) (I : InstAt s.heap e ox 53 od) (hm : sfMro K = true) (ha : findIn K (.ref 53) name = some none)
    (h : wpAny (model prog w) A.in1 (storeInOwnDict (.ref e) (.ref 53) (.str name tk) name v false)
      (fun fin s' => match fin with | .done f => R (.ok f) s' | .again c' => c'.quiet = true ∧ codeAny (model prog w) A c' R s') (fun e s' => R (.error e) s') s) :
    codeAny (model prog w) A (.call (.builtin "object.__setattr__") ⟨[.ref e, .str name tk, v], []⟩) R s := by
  have SF := PySem.F.store_object
  obtain ⟨cd, hc, ho⟩ := any_some hm
  have hmro : cd.mro = .ref 53 :: sfRow := beq_iff_eq.mp (Bool.and_eq_true_iff.mp ho).1
  have lm : Looks (model prog w) s.heap (mroOf (.ref 53)) (.ref 53 :: sfRow) := hmro ▸ (looks_clsIn X hc).andThen .now
  have sub : Looks (model prog w) s.heap (isInstance (.ref e) (.type "object")) true := I.type.andThen (looks_mroIn X (by unfold mroIn; rw [hc, Option.bind_some, hmro]; rfl))
  refine codeAny_call_builtin SF.slot.plain SF.entry (@check_slot (model prog w) _ _ s "object.__setattr__" "object" "__setattr__" (.ref e) [.str name tk, v] [] _ SF.kind SF.split sub (SF.args (.ref e) (.str name tk) v) ?_)
  rw [osa_eq, refuse_eq]
  refine wpAny_bind (wpAny_bind (I.type.here (wpAny_bind (lm.here ?_))))
  rw [refuseLoop_ref, refuseLoop_ref, PySem.F.store_Exception.passes]
  refine wpAny_pure (wpAny_bind (I.type.here (wpAny_bind ((looks_findIn X ha).here (wpAny_bind (wpAny_pure ?_))))))
  exact h

theorem sf_setE {Q : Unit → Shared → Prop} (X : K.In s.heap) (I : InstAt s.heap e ox 53 od) (hs : findIn K (.ref 53) "__setattr__" = some (some (.builtin "object.__setattr__"))) (hm : sfMro K = true) (ha : findIn K (.ref 53) name = some none)
    (h : ∀ A : Around, wpAny (model prog w) A (storeInOwnDict (.ref e) (.ref 53) (.str name s.toks) name v false) (fun fin s' => fin = .done (.ret .none) ∧ Q () s') (fun e s' => E e s') { s with toks := s.toks + 1 }) :
    wpAny (model prog w) A (setAttr (.ref e) name v) Q E s := by
  refine set_plain X I hs (sf_osa (s := { s with toks := s.toks + 1 }) X I hm ha (wpAny_mono (h _) (fun fin s' z => ?_) fun _ _ x => x))
  obtain ⟨rfl, z⟩ := z
  exact z

theorem sf_store {Q : Fin → Shared → Prop} (D : s.heap.get? d = some (dictOf es n)) (hl : (getL name es).isSome = true) (hz : (putL name (PyData.keyHash w.params name) (.str name s.toks) v es).length ≤ 1000)
    (h : Q (.done (.ret .none)) { s with heap := s.heap.update d (Obj.putName name (PyData.keyHash w.params name) (.str name s.toks) v), toks := s.toks + 1 }) :
    wpAny (model prog w) A (storeInDict d (.str name tk) name v) Q E s := by
  unfold storeInDict newKeyGuard
  refine wpAny_bind (wpAny_pure (wpAny_bind ?_))
  unfold nsSet
  refine wpAny_bind (wpAny_bind (wpAny_askSetting (wpAny_pure (wpAny_bind (wpAny_mkText (wpAny_bind (wpAny_loadPart D ?_)))))))
  dsimp only
  have c : (!es.toArray.any (·.key.isStr name) && es.toArray.any (·.refKey)) = false := by
    rw [← Array.any_toList, ← Array.any_toList]
    unfold getL at hl
    split at hl
    · rename_i en he
      rw [List.any_eq_true.mpr ⟨en, List.mem_of_find?_eq_some he, List.find?_some he⟩]; rfl
    · split at hl
      · cases hl
      · rename_i z; rw [Bool.not_eq_true] at z; rw [z, Bool.and_false]
  rw [aRefKeyMayBeTheName_at, c]
  refine wpAny_updatePart D ?_
  have e0 := putName_dict name (PyData.keyHash w.params name) (.str name s.toks) v es n
  have D' : (s.heap.update d (Obj.putName name (PyData.keyHash w.params name) (.str name s.toks) v)).get? d = some (dictOf (putL name (PyData.keyHash w.params name) (.str name s.toks) v es) (putN name es n)) := by
    rw [← e0]
    exact Heap.get?_update_self _ D (by rw [e0]; rfl)
  refine wpAny_bind (wpAny_lookBehind D' (pastItsLine_dict (by rw [List.size_toArray, sizeLine_eq]; omega)) ?_)
  exact wpAny_pure h
end
end Mine
end

section
open PySem PySem.W PySem.Calls PyProof.Rows Builtin Builtin.ObjectAttr
set_option maxRecDepth 100000
namespace Mine
section
variable {prog : Program} {w : World} {A : Around} {E : Value → Shared → Prop} {s : Shared} {K : Frag} {h₀ : Heap} {L e a d : Addr} {dd : Option Addr} {m : Str → Option Value} {news : List (Addr × Obj)} {gg : Obj → List (Addr × Obj)} {R : Result → Shared → Prop}
  {ox : Obj} {od : Option Obj} {name : Str} {tk : Tok} {v : Value} {es : List DictEntry} {n : Nat}
theorem sf_set1 {Q : Unit → Shared → Prop} (F : Fr h₀ L s.heap m) (X₀ : K.In h₀) (N : News h₀ L s.heap news) (U : UpdF e (sfO a none) news gg)
    (hs : findIn K (.ref 53) "__setattr__" = some (some (.builtin "object.__setattr__"))) (hm : sfMro K = true) (ha : findIn K (.ref 53) name = some none)
    (h : ∀ d h' x, Fr h₀ L h' m → News h₀ L h' ((d, dictOf [⟨x, .str name (s.toks + 1), v⟩] 1) :: gg (sfO a (some d))) → (∀ p ∈ news, p.1 < d) → Q () { s with heap := h', toks := s.toks + 2 }) :
    wpAny (model prog w) A (setAttr (.ref e) name v) Q E s := by
  have X := X₀.keeps F.keep
  obtain ⟨pre, post, rfl, hg, h1, h2⟩ := U.split
  have he := (N (e, sfO a none) (List.mem_append_right _ (.head _))).1
  have hlt : ∀ p ∈ pre ++ (e, sfO a none) :: post, p.1 < s.heap.objs.size := fun p hp => Heap.lt_size (N p hp).1
  refine sf_setE X (od := none) ⟨he, rfl, rfl, trivial⟩ hs hm ha fun A' => ?_
  obtain ⟨cd, hc, ho⟩ := any_some hm
  have hh : cd.hasDict = true := (Bool.and_eq_true_iff.mp ho).2
  have F1 := F.push emptyDict
  have N1 := N.push F emptyDict
  have he1 := (N1 (e, sfO a none) (.tail _ (List.mem_append_right _ (.head _)))).1
  obtain ⟨F2, N2⟩ := news_upd (f := fun o => { o with dict := some s.heap.objs.size }) (o' := sfO a (some s.heap.objs.size)) (pre := (s.heap.objs.size, emptyDict) :: pre) F1 N1
    (fun p hp => by
      rcases List.mem_cons.mp hp with rfl | hp
      · exact Nat.ne_of_gt (hlt (e, sfO a none) (List.mem_append_right _ (.head _)))
      · exact h1 p hp) h2 rfl rfl
  have D2 := (N2 (s.heap.objs.size, emptyDict) (.head _)).1
  refine wpAny_bind (wpAny_pure (wpAny_bind (wpAny_bind (wpAny_loadPart he (wpAny_bind (Looks.here (s := { s with toks := s.toks + 1 }) (looks_clsIn X hc) ?_))))))
  rw [hh]
  refine wpAny_bind (wpAny_alloc (wpAny_bind (wpAny_update he1 (wpAny_pure (wpAny_bind (wpAny_pure ?_))))))
  have e0 := putName_dict name (PyData.keyHash w.params name) (.str name (s.toks + 1)) v [] 0
  obtain ⟨F3, N3⟩ := news_upd (f := Obj.putName name (PyData.keyHash w.params name) (.str name (s.toks + 1)) v) (pre := []) F2 N2 (fun p hp => nomatch hp)
    (fun p hp => by
      have : p ∈ pre ++ (e, sfO a (some s.heap.objs.size)) :: post := hp
      rcases List.mem_append.mp this with q | q
      · exact Nat.ne_of_lt (hlt p (List.mem_append_left _ q))
      · rcases List.mem_cons.mp q with rfl | q
        · exact Nat.ne_of_lt (hlt (e, sfO a none) (List.mem_append_right _ (.head _)))
        · exact Nat.ne_of_lt (hlt p (List.mem_append_right _ (.tail _ q)))) e0 rfl
  refine sf_store (tk := s.toks) (es := []) (n := 0) D2 rfl (by show 1 ≤ 1000; decide) ⟨rfl, ?_⟩
  exact h s.heap.objs.size _ _ F3 (by rw [hg]; exact N3) hlt

theorem getL_one {x : Int} {y name : Str} {t : Tok} {u : Value} : (getL name [⟨x, .str y t, u⟩]).isSome = true := by
  unfold getL
  split
  · rfl
  · rfl
theorem putL_len {name : Str} {x : Int} {k v : Value} : ∀ es : List DictEntry, (putL name x k v es).length ≤ es.length + 1
  | [] => Nat.le_refl _
  | e :: r => by
    unfold putL
    split
    · exact Nat.le_succ _
    · exact Nat.succ_le_succ (putL_len r)
theorem sf_set2 {x₁ : Int} {y₁ : Str} {t₁ : Tok} {u₁ : Value} {Q : Unit → Shared → Prop} (F : Fr h₀ L s.heap m) (X₀ : K.In h₀) (N : News h₀ L s.heap news) (he : (e, sfO a (some d)) ∈ news) (U : UpdF d (dictOf [⟨x₁, .str y₁ t₁, u₁⟩] n) news gg)
    (hs : findIn K (.ref 53) "__setattr__" = some (some (.builtin "object.__setattr__"))) (hm : sfMro K = true) (ha : findIn K (.ref 53) name = some none)
    (h : ∀ h' es' n', Fr h₀ L h' m → News h₀ L h' (gg (dictOf es' n')) → Q () { s with heap := h', toks := s.toks + 2 }) :
    wpAny (model prog w) A (setAttr (.ref e) name v) Q E s := by
  have X := X₀.keeps F.keep
  have he0 := (N _ he).1
  obtain ⟨pre, post, rfl, hg, h1, h2⟩ := U.split
  have D := (N (d, dictOf [⟨x₁, .str y₁ t₁, u₁⟩] n) (List.mem_append_right _ (.head _))).1
  refine sf_setE X (od := some (dictOf [⟨x₁, .str y₁ t₁, u₁⟩] n)) ⟨he0, rfl, rfl, D⟩ hs hm ha fun A' => ?_
  obtain ⟨cd, hc, ho⟩ := any_some hm
  have hh : cd.hasDict = true := (Bool.and_eq_true_iff.mp ho).2
  have e0 := putName_dict name (PyData.keyHash w.params name) (.str name (s.toks + 1)) v [⟨x₁, .str y₁ t₁, u₁⟩] n
  obtain ⟨F1, N1⟩ := news_upd (f := Obj.putName name (PyData.keyHash w.params name) (.str name (s.toks + 1)) v) F N h1 h2 e0 rfl
  refine wpAny_bind (wpAny_pure (wpAny_bind (wpAny_bind (wpAny_loadPart he0 (wpAny_bind (Looks.here (s := { s with toks := s.toks + 1 }) (looks_clsIn X hc) ?_))))))
  rw [hh]
  refine wpAny_pure (a := some d) (wpAny_bind (wpAny_pure ?_))
  refine sf_store (tk := s.toks) D getL_one (Nat.le_trans (putL_len _) (by show 2 ≤ 1000; decide)) ⟨rfl, ?_⟩
  exact h _ _ _ F1 (by rw [hg]; exact N1)
end
end Mine
end

section
open PySem PySem.W PySem.Spec PySem.Calls PyProof.Rows Mine
local macro_rules | `(tactic| walk_at "call builtin:abs") => `(tactic| ((with_reducible refine call_abs_nat ?_); intro _ _))
local macro_rules | `(tactic| walk_at "binaryOp FloorDiv int int") => `(tactic| (k_here; (with_reducible refine floordiv_int ?hb ?_ (Or.inl (PyProof.noPylong_of_log2 ?hl))); (case hb => first | assumption | omega); (case hl => first | assumption | decide +kernel)))
local macro_rules | `(tactic| cell_enter) => `(tactic| (refine' code_def ?k1 ?k2 ?k3 ?k4 ?k5 ?kA ?kF ?kK ?k6 ?k7 ?k8 ?k9 ?kB ?_ ?c2 ?c3 ?c4 ?c5; (case kA => exact rfl); (case kF => exact rfl); (case kK => assumption); (case k1 => k_asm); (case k2 => k_asm); (case k3 => k_asm); (case k4 => k_asm); (case k5 => k_asm); (case k6 => k_is); (case k7 => k_is); (case k8 => ktr_room); (case k9 => first | exact BindsTo.of_eq rfl | exact binds_K (by k_in) rfl (by k_is) rfl rfl rfl); (case c5 => decide); (case kB => exact locs rfl); (case c2 => exact rfl); (case c3 => exact rfl); (case c4 => exact rfl); k_whole; intro g' L' h' FG' F' N' B' X' T'; (try dsimp only); (try k_lift B'); (try k_fold)))
local macro_rules | `(tactic| mul_fits) => `(tactic| assumption)
local macro_rules | `(tactic| ktn_open) => `(tactic| ((case k1 => k_asm); (case k2 => k_asm); (case k3 => k_asm); (case k4 => k_asm); (case k5 => k_asm); (case kK => first | exact rfl | assumption); (case kd => ktr_room); (case ku => ktr_units)))
local macro_rules | `(tactic| walk_at "call ref") => `(tactic| k_extra "my call ref")
local macro_rules | `(tactic| walk_at "pyIter ref") => `(tactic| k_extra "my pyIter ref")
section
open PySem PySem.W PySem.Spec PySem.Calls PyProof.Rows
set_option maxRecDepth 100000
set_option maxHeartbeats 8000000
namespace Mine
theorem words_C1 : True := by
  k_with_none
  trivial
theorem c_cut (news : Led) (t b : Int) (tt bt : Tok) (hb : b ≠ 0) (hm : Mag 1000 b) :
    CallS PySem.Challenge.rw_pc0121_01.row.prog (fun w => hd.heap_39 w.params) 2 (.ref 62) news [.int t tt, .int b bt] (RetI (Int.tdiv t b)) := by
  w_top off
  k_fill
  have hl : (((b.natAbs : Nat) : Int)).natAbs.log2 < 9000 := hm.log2 (by decide)
  dsimp only [CallS, RetI]
  intros
  rename_i hret
  refine wpAny_call ?_
  k_dflt cell_enter
  k_steps
  · exact ret_I hret (tdiv_cut t b (by assumption)) (by k_asm) (by k_asm)
  · exact ret_I hret (tdiv_cut' t b (by assumption)) (by k_asm) (by k_asm)
theorem c_lcut (news : Led) (t b : Int) (tt bt : Tok) (hb : 0 < b) (hm : Mag 1000 b) :
    CallS PySem.Challenge.rw_pc0121_01.row.prog (fun w => hd.heap_39 w.params) 2 (.ref 127) news [.int t tt, .int b bt] (RetI (Int.tdiv t b)) := by
  w_top off
  k_fill
  have hl : b.natAbs.log2 < 9000 := hm.log2 (by decide)
  dsimp only [CallS, RetI]
  intros
  rename_i hret
  refine wpAny_call ?_
  k_dflt cell_enter
  k_steps
  · exact ret_I hret (law_cut_neg t b (by simp_all) hb) (by k_asm) (by k_asm)
  · exact ret_I hret (law_cut_pos t b (by simp_all) hb) (by k_asm) (by k_asm)
theorem c_fits (news : Led) (u d : Int) (tt bt : Tok) (h0 : 0 ≤ d) (h1 : d ≤ 1000) :
    CallS PySem.Challenge.rw_pc0121_01.row.prog (fun w => hd.heap_39 w.params) 2 (.ref 106) news [.int u tt, .int d bt] (RetB (decide (u.natAbs < 10 ^ d.toNat))) := by
  w_top off
  k_fill
  dsimp only [CallS, RetB]
  intros
  rename_i hret
  refine wpAny_call ?_
  k_dflt cell_enter
  k_steps
  · exact ret_B hret (by rw [decide_eq_decide]; rw [← Int.ofNat_lt]; simp) (by k_asm) (by k_asm)
end Mine
end

section
open PySem PySem.W PySem.Spec PySem.Calls PyProof.Rows
set_option maxRecDepth 100000
set_option maxHeartbeats 8000000
namespace Mine
theorem words_C2 : True := by
  k_with_none
  trivial
theorem c_dec (news : Led) (u c : Int) (tt bt : Tok) (hm : Mag 1000 u) (h1 : -1000 ≤ c) (h2 : c ≤ 1000) :
    CallS PySem.Challenge.rw_pc0121_01.row.prog (fun w => hd.heap_39 w.params) 2 (.ref 70) news [.int u tt, .int c bt] (RetP (dec u c)) := by
  w_top off
  k_fill
  have hmul : IntMulOk u (10 ^ (-c).toNat) := hm.ok (Mag.mono (Mag.pow _) (show (-c).toNat + 1 ≤ 1001 by omega)) (by decide) (by decide)
  dsimp only [CallS, RetP]
  intros
  rename_i hret
  refine wpAny_call ?_
  k_dflt cell_enter
  k_steps
  · exact ret_P hret (by unfold dec; rw [if_pos (by assumption)]) (by k_asm) (by k_asm) (.head _) (fun _ h => .tail _ h) (by assumption)
  · exact ret_P hret (strip_acc (by assumption) (by assumption) (by assumption) (by assumption) (by assumption)) (by k_asm) (by k_asm) (.head _) (fun _ h => .tail _ h) (by assumption)
end Mine
end

section
open PySem PySem.W PySem.Spec PySem.Calls PyProof.Rows
set_option maxRecDepth 100000
set_option maxHeartbeats 8000000
namespace Mine
theorem words_C3 : True := by
  k_with_none
  trivial
theorem c_lplain (news : Led) (u c : Int) (tt bt : Tok) (hm : Mag 1000 u) (h1 : -1000 ≤ c) (h2 : c ≤ 1000) :
    CallS PySem.Challenge.rw_pc0121_01.row.prog (fun w => hd.heap_39 w.params) 2 (.ref 120) news [.int u tt, .int c bt] (RetP (dec u c)) := by
  w_top off
  k_fill
  have hmul : IntMulOk u (10 ^ (-c).toNat) := hm.ok (Mag.mono (Mag.pow _) (show (-c).toNat + 1 ≤ 1001 by omega)) (by decide) (by decide)
  dsimp only [CallS, RetP]
  intros
  rename_i hret
  refine wpAny_call ?_
  k_dflt cell_enter
  (k_with "exec While BoolOp cons nil" => k_while (fun script u' s' => 0 ≤ s' ∧ strip u' s'.toNat = strip u c.toNat) (fun script u' s' => s'.toNat) "units" "scale")
  (k_with "state" => first | exact ⟨by omega, rfl⟩ | exact strip_turn (by assumption) (by assumption) (by assumption))
  k_steps
  · exact ret_P hret (by unfold dec; rw [if_pos (by assumption)]) (by k_asm) (by k_asm) (.head _) (fun _ h => .tail _ h) (by assumption)
  · exact ret_P hret (strip_end1 (by assumption) (by assumption) (by assumption) (by assumption)) (by k_asm) (by k_asm) (.head _) (fun _ h => .tail _ h) (by assumption)
  · exact ret_P hret (strip_end2 (by assumption) (by assumption) (by assumption) (by assumption)) (by k_asm) (by k_asm) (.head _) (fun _ h => .tail _ h) (by assumption)
  k_with_none
end Mine
end

section
open PySem PySem.W PySem.Spec PySem.Calls PyProof.Rows
set_option maxRecDepth 100000
set_option maxHeartbeats 8000000
namespace Mine
local macro_rules | `(tactic| walk_at "eval Call") => `(tactic| (k_here; k_dflt (refine Call_ ?_)))
theorem words_C4 : True := by
  k_with_none
  k_with "my call ref" =>
    (k_here; k_dflt (first
      | (refine' use_call (K := fun w => hd.heap_39 w.params) (c_lcut _ _ _ _ _ ?p1 ?p2) ?k1 ?k2 ?k3 ?k4 ?k5 ?kK ?kd ?ku ?_; (case p1 => first | assumption | omega | ((rename (_ ≠ (0:Int) → _ ≠ (0:Int)) => hI); have h9 := hI (by assumption); omega)); (case p2 => assumption); ktn_open; (intro _ _ _ _ _; (try dsimp only); (try k_fold)))
      | (refine' use_call (K := fun w => hd.heap_39 w.params) (c_lplain _ _ _ _ _ ?p1 ?p2 ?p3) ?k1 ?k2 ?k3 ?k4 ?k5 ?kK ?kd ?ku ?_; (case p1 => assumption); (case p2 => omega); (case p3 => omega); ktn_open; (intro _ _ _ _ _ _ _ _ _; (try dsimp only); (try k_fold)))))
  trivial
theorem c_lquo (news : Led) (a b : Int × Int) (many : Int) (ra rb : Addr) (ta ua tb ub tm : Tok) (ca cb : Nat) (hra : (ra, tupO a.1 a.2 ta ua ca) ∈ news) (hrb : (rb, tupO b.1 b.2 tb ub cb) ∈ news)
    (ha : Ok 400 a) (hb : Ok 400 b) (hm0 : 0 ≤ many) (hm1 : many ≤ 100) :
    CallS PySem.Challenge.rw_pc0121_01.row.prog (fun w => hd.heap_39 w.params) 4 (.ref 141) news [.ref ra, .ref rb, .int many tm] (RetO (quo a b many)) := by
  w_top off
  k_fill
  obtain ⟨a0, a1⟩ := a
  obtain ⟨b0, b1⟩ := b
  obtain ⟨ha0, ha1, ha2⟩ := ha
  obtain ⟨hb0, hb1, hb2⟩ := hb
  dsimp only at *
  have p1 : Mag 300 ((10 : Int) ^ (b1 + many).toNat) := mag_pow (by omega)
  have p2 : Mag 300 ((10 : Int) ^ a1.toNat) := mag_pow (by omega)
  have q1 := ha0.ok p1 (by decide) (by decide)
  have q2 := hb0.ok p2 (by decide) (by decide)
  have m1 : Mag 1000 (a0 * 10 ^ (b1 + many).toNat) := (ha0.mul p1).mono (by decide)
  have m2 : Mag 1000 (-(a0 * 10 ^ (b1 + many).toNat)) := m1.neg
  have m3 : Mag 1000 (((b0 * 10 ^ a1.toNat).natAbs : Nat) : Int) := ((hb0.mul p2).mono (by decide)).abs
  have m4 : Mag 1000 (Int.tdiv (a0 * 10 ^ (b1 + many).toNat) (((b0 * 10 ^ a1.toNat).natAbs : Nat) : Int)) := m1.tdiv
  have m5 : Mag 1000 (Int.tdiv (-(a0 * 10 ^ (b1 + many).toNat)) (((b0 * 10 ^ a1.toNat).natAbs : Nat) : Int)) := m2.tdiv
  have hz : b0 ≠ 0 → b0 * 10 ^ a1.toNat ≠ 0 := fun h => Int.mul_ne_zero h (pow_ne _)
  dsimp only [CallS, RetO]
  intros
  rename_i hret
  refine wpAny_call ?_
  k_dflt cell_enter
  k_steps
  · exact ret_N hret (quo_none (by assumption)) (by k_asm) (by k_asm)
  · rename_i l9 kF kN Tc kX
    exact ret_S hret (quo_p (by assumption) (by assumption)) kF kN (.head _) (fun _ h => .tail _ (.tail _ h)) (fun q hq => l9 q (.tail _ hq))
  · rename_i l9 kF kN Tc kX
    exact ret_S hret (quo_n (by assumption) (by assumption)) kF kN (.head _) (fun _ h => .tail _ (.tail _ h)) (fun q hq => l9 q (.tail _ hq))
end Mine
end

section
open PySem PySem.W PySem.Spec PySem.Calls PyProof.Rows
set_option maxRecDepth 100000
set_option maxHeartbeats 8000000
namespace Mine
theorem sf_meta : typeOf (.type "Exception") = pure (.type "type") := by kernel_rfl
theorem one_fits (v : Value) : [v].length ≤ sizeLine := by rw [sizeLine_eq]; show 1 ≤ _; decide
theorem sf_mro (w : World) : sfMro (hd.heap_39 w.params) = true := by kernel_rfl
abbrev RetSF : Ret := fun h₀ L m news s Q => ∀ (e a d : Addr) (h' : Heap) (tk' : Nat), Fr h₀ L h' m → News h₀ L h' ((e, sfO a (some d)) :: news) → (∀ q ∈ news, q.1 ≠ e) → Q (.ref e) { s with heap := h', toks := tk' }
theorem ret_SF {h₀ h' : Heap} {L e a d : Addr} {m : Str → Option Value} {news : Led} {x y z : Addr × Obj} {s : Shared} {Q : Value → Shared → Prop} {tk' : Nat} (hret : RetSF h₀ L m news s Q) (F : Fr h₀ L h' m)
    (N : News h₀ L h' (x :: y :: (e, sfO a (some d)) :: z :: news)) (hn : ∀ q ∈ news, q.1 ≠ e) : Q (.ref e) { s with heap := h', toks := tk' } := by
  refine hret e a d h' tk' F (fun q hq => ?_) hn
  rcases List.mem_cons.mp hq with rfl | hq
  · exact N _ (.tail _ (.tail _ (.head _)))
  · exact N _ (.tail _ (.tail _ (.tail _ (.tail _ hq))))
local macro_rules | `(tactic| walk_at "getMethod type:Exception") => `(tactic| (k_here; k_dflt (refine' method_type ?F ?X ?m ?st ?e ?h ?_; (case F => k_asm); (case X => k_asm); (case m => exact sf_meta); (case st => decide +kernel); (case e => k_is); (case h => k_handed))))
local macro_rules | `(tactic| walk_at "call builtin:Exception.__init__") => `(tactic| (k_here; k_dflt (refine' sf_base_init ?F ?N ?U ?z ?c ?_; (case F => k_asm); (case N => k_asm); (case U => k_updF); (case z => exact one_fits _); (case c => exact (Frag.In.keeps (by k_asm) (Fr.keep (by k_asm))) 53 _ (by k_is)); k_whole; intro t' h' F' N' l1; (try dsimp only at N'); (try k_lt l1); (try k_sweep))))
local macro_rules | `(tactic| walk_at "setAttr ref") => `(tactic| k_extra "my setAttr ref")
theorem words_E4 : True := by
  k_with_none
  k_with "my setAttr ref" =>
    (k_here; k_dflt (first
      | (refine' sf_set1 ?F ?X ?N ?U ?a ?b ?c ?_; (case F => k_asm); (case X => k_asm); (case N => k_asm); (case U => k_updF); (case a => k_is); (case b => exact sf_mro _); (case c => k_is); k_whole; intro _ _ _ _ N' l1; (try dsimp only at N'); (try k_lt l1); (try k_sweep))
      | (refine' sf_set2 ?F ?X ?N ?he ?U ?a ?b ?c ?_; (case F => k_asm); (case X => k_asm); (case N => k_asm); (case he => k_mem); (case U => k_updF); (case a => k_is); (case b => exact sf_mro _); (case c => k_is); k_whole; intro _ _ _ _ N'; (try dsimp only at N'); (try k_sweep))))
  trivial
local macro_rules | `(tactic| k_all) => `(tactic| (intro p9 hp9; (rename (∀ q ∈ (_ : List (Addr × Obj)), q.1 < _) => hL9); have h9 := ltN (hL9 p9 hp9); refine neN ?_; (try dsimp only at h9 ⊢); omega))
theorem c_sf (news : Led) (txt : Str) (tt : Tok) :
    CallS PySem.Challenge.rw_pc0121_01.row.prog (fun w => hd.heap_39 w.params) 4 (.ref 53) news [.str txt tt] RetSF := by
  w_top off
  k_fill
  dsimp only [CallS, RetSF]
  intro w p loose mean mg mb dp un gd cn cs a ccd cl outer A₀ base h₀ L m s Q E B F X N T hk hdp hun hret
  have hC := (X.keeps F.keep) 53 _ (by k_is)
  obtain ⟨hp, gn, dr, tk, os⟩ := s
  refine sf_call (K := hd.heap_39 w.params) (X.keeps F.keep) hC (one_fits _) (by k_is) (by k_is) ?_
  have F1 := (F.push { cls := .type "tuple", data := .seq #[.str txt tt] }).push (sfO hp.objs.size none)
  have N1 := (N.push F { cls := .type "tuple", data := .seq #[.str txt tt] }).push (F.push _) (sfO hp.objs.size none)
  rw [Heap.size_push] at N1
  have hlt : ∀ q ∈ news, q.1 < hp.objs.size := fun q hq => Heap.lt_size (N q hq).1
  dsimp only at F1 N1
  refine wpAny_call ?_
  k_dflt cell_enter
  k_steps
  rename_i kF kN Tc kX
  exact ret_SF hret kF kN fun q hq => Nat.ne_of_lt (Nat.lt_succ_of_lt (hlt q hq))
end Mine
end

section
open PySem PySem.W PySem.Spec PySem.Calls PyProof.Rows
set_option maxRecDepth 100000
namespace Mine
theorem fr_mem {env : Env} {L b : Addr} {outer : List Env} (hf : env.frame = some L) (hm : b ∈ (env :: outer).filterMap (·.frame)) : b = L ∨ b ∈ outer.filterMap (·.frame) := by
  obtain ⟨v, he, hv⟩ := List.mem_filterMap.mp hm
  rcases List.mem_cons.mp he with rfl | he
  · rw [hf] at hv
    exact .inl (Option.some.inj hv).symm
  · exact .inr (List.mem_filterMap.mpr ⟨v, he, hv⟩)
theorem raised_sub {base G h : Heap} {l : List Env} {e : Addr} {cls : Value} {news news' : List (Addr × Obj)} (R : RaisedSN base G l e cls news h) (hs : ∀ q ∈ news', q ∈ news) : RaisedSN base G l e cls news' h := by
  obtain ⟨B, a0, h1, h2, h3, h4⟩ := R
  exact ⟨B, a0, h1, h2, fun q hq => h3 q (hs q hq), h4⟩
section
variable {M : Model} {A : Around} {E : Value → Shared → Prop} {s' : Shared} {base g g₂ : Heap} {outer : List Env} {L a e : Addr} {m : Str → Option Value} {name : Str} {scope : Scope} {cd : Value} {Q : Unit → Shared → Prop} {news : List (Addr × Obj)} {env : Env}

/-- a SizeFault leaves the frame that raised it -/
theorem leave_sf {ta : Addr} {td : Option Addr} (K : Below A base outer g) (F : Fr g L s'.heap m) (N : News g L s'.heap ((e, sfO ta td) :: news)) (hlt : ∀ q ∈ news, q.1 ≠ e)
    (hQ : ∀ h', RaisedSN base g outer e (.ref 53) news h' → g.UpToSlots h' → Q () { s' with heap := h' }) (hk : scope.kind = .function := by rfl) :
    wpAny M (A.deeper (envOf name scope L a cd)) (leaving (envOf name scope L a cd) (.ref e)) Q E s' := by
  have K' := K.push (name := name) (a := a) (cd := cd) F hk
  have Ne := N (e, sfO ta td) (.head _)
  have hfr : ∀ env ∈ (envOf name scope L a cd :: outer), ∀ b, env.frame = some b → b ∈ e :: (envOf name scope L a cd :: outer).filterMap (·.frame) :=
    fun env he b hb => .tail _ (List.mem_filterMap.mpr ⟨env, he, hb⟩)
  have away : ∀ b o, g.get? b = some o → b ∉ outer.filterMap (·.frame) → (hideAll s'.heap (e :: (envOf name scope L a cd :: outer).filterMap (·.frame))).get? b = some o := fun b o q nm => hideAll_get _ (F.keep b o q) fun hm => by
    rcases List.mem_cons.mp hm with rfl | hm
    · rw [Ne.2.2] at q; cases q
    · rcases fr_mem (env := envOf name scope L a cd) rfl hm with z | z
      · rw [z, kts_self F] at q; cases q
      · exact nm z
  have st : base.StaysIn (hideAll s'.heap (e :: (envOf name scope L a cd :: outer).filterMap (·.frame))) := fun b o q => away b o (K.stays b o q) fun hm => by
    rw [(K.frames.mem hm).1] at q; cases q
  have hl : ∀ q ∈ news, (hideAll s'.heap (e :: (envOf name scope L a cd :: outer).filterMap (·.frame))).get? q.1 = some q.2 ∧ g.get? q.1 = none ∧ base.get? q.1 = none := fun q hq => by
    have Nq := N q (.tail _ hq)
    refine ⟨hideAll_get _ Nq.1 fun hm => ?_, Nq.2.2, fresh_of_stays K.stays Nq.2.2⟩
    rcases List.mem_cons.mp hm with z | hm
    · exact hlt q hq z
    · rcases fr_mem (env := envOf name scope L a cd) rfl hm with z | z
      · exact Nq.2.1 z
      · obtain ⟨_, o, ho, _⟩ := K.frames.mem z
        rw [Nq.2.2] at ho; cases ho
  refine wpAny_leaving_firstW (a0 := .ref ta) K'.stack (funFrames_hide K'.frames hfr) rfl Ne.1 (fun b o hb => of_hideAll _ hb) (hideAll_none _ (.head _)) rfl rfl rfl fun h' hL => ?_
  obtain ⟨k1, ⟨_, _, k2⟩, k3, k4⟩ := hL
  exact hQ h' ⟨_, .ref ta, st, away, hl, k1, hideAll_none _ (.head _), k2, k3⟩ ((Heap.UpToSlots.of_keeps F.keep).trans k4)

/-- it leaves a further frame, of whatever make -/
theorem leave_on {cls : Value} (hf : env.frame = some L) (K : Below A base outer g) (F : Fr g L g₂ m) (R : RaisedSN base g₂ (env :: outer) e cls news s'.heap) (hsm : g₂.UpToSlots s'.heap)
    (hQ : ∀ h', RaisedSN base g outer e cls news h' → g.UpToSlots h' → Q () { s' with heap := h' }) :
    wpAny M (A.deeper env) (leaving env (.ref e)) Q E s' := by
  obtain ⟨B, a0, hB, hBG, hl, hfl⟩ := R
  refine wpAny_leaves_onW (Around.frames_deeper K.stack) hf hfl fun h' x1 x2 => hQ h' ⟨B, a0, hB, fun b o q nm => hBG b o (F.keep b o q) (fun hm => ?_), fun q hq => ⟨(hl q hq).1, kts_none F.keep (hl q hq).2.1, (hl q hq).2.2⟩, x1⟩
    ((Heap.UpToSlots.of_keeps F.keep).trans (hsm.trans x2))
  rcases fr_mem hf hm with z | z
  · rw [z, kts_self F] at q
    cases q
  · exact nm z
end

section
variable {prog : Program} {w : World} {A₀ : Around} {E : Value → Shared → Prop} {s' : Shared} {base g G : Heap} {outer : List Env} {L a e : Addr} {m : Str → Option Value} {name : Str} {scope : Scope} {cd : Value}
  {b₀ : Stmt} {suite : List Stmt} {pos np : Pos} {rest : List ExceptHandler} {Q : Flow → Shared → Prop} {news : List (Addr × Obj)} {KF : Frag}
  {p : Program} {loose : List Str} {mean : ExcName → Option Value} {mg mb : Str → Option Value} {x : Str} {C : Addr}
theorem caught_sf (R : RaisedSN base G (envOf name scope L a cd :: outer) e (.ref C) news s'.heap) (F : Fr g L G m) (K : Below A₀ base outer g) (hsm : G.UpToSlots s'.heap) (XB : KF.In base) (TB : Top p loose mean mg mb base)
    (ex : nsIn KF mainGlobals x = some (some (.ref C))) (q : ktsIn KF C "BaseException" = true)
    (k : ∀ h' g', KtsTurn (outer.filterMap (·.frame)) g g' → Fr g' L h' m → News g' L h' news → Below A₀ base outer g' → KF.In g' → Top p loose mean mg mb g' →
      wpAny (model prog w) ((A₀.deeper (envOf name scope L a cd)).mark (some (.ref e))) (execs (b₀ :: suite) (envOf name scope L a cd)) Q E { s' with heap := h' })
    (hk : scope.kind = .function := by rfl) (hx : (envOf name scope L a cd).kindOf x = some .globalImplicit := by rfl) (hd : (x == ("__debug__" : Str)) = false := by decide)
    (hE : PassesOwnAt (model prog w) ((A₀.deeper (envOf name scope L a cd)).mark (some (.ref e))) (A₀.deeper (envOf name scope L a cd)) (envOf name scope L a cd) E := by passes_own) :
    wpAny (model prog w) (A₀.deeper (envOf name scope L a cd)) (noteFrame (.ref e) (envOf name scope L a cd))
      (fun _ s₂ => wpAny (model prog w) (A₀.deeper (envOf name scope L a cd)) (setFlight (.ref e) none) (fun _ s₃ =>
        wpAny (model prog w) (A₀.deeper (envOf name scope L a cd)) (handleBy (.ref e) (envOf name scope L a cd) (.ExceptHandler (some (.Name x np)) none (b₀ :: suite) pos :: rest)) Q E s₃) E s₂) E s' := by
  obtain ⟨B, a0, hB, hBG, hl, hfl⟩ := R
  have hL : B.get? L = none := by
    obtain ⟨_, ⟨L', _, hf, hn', _⟩, _⟩ := hfl.2.2.1
    obtain rfl : L = L' := Option.some.inj hf
    exact hn'
  refine wpAny_looks_onW (Around.frames_deeper K.stack) rfl hfl fun h₄ hheld₄ hsm₄ => ?_
  refine wpAny_landsW hheld₄ fun h₅ hheld hsm₅' => ?_
  have hsm₅ := hsm₄.trans hsm₅'
  obtain ⟨g₅, T₅, F₅, K₅⟩ := kts_ground K F hBG hheld.1 (hsm.trans hsm₅)
  have X₅ : KF.In g₅ := XB.keeps K₅.stays
  have P₅ : TopRead p loose mg mb g₅ := topRead_of (TB.keeps K₅.stays)
  obtain ⟨ob, hob, hobc⟩ := hheld.there
  obtain ⟨nm, q', N, bs, bm, hdct, sn, sub, ab, col, dd, k0, k1, k2, k3, k5, newId, hC, hbase, -⟩ := kts_cls X₅ q
  refine wpAny_handleBy_cons (codeAny_handlers_test (name_K F₅ X₅ P₅ ex ?_ hk hx hd)) (by intro q; cases q)
  refine wpAny_excMatches_sub_self (F₅.keep _ _ hC) hob hobc hbase (codeAny_handlers_suite ?_)
  refine lands_againW hheld fun h₆ hfl₆ hsm₆ => ?_
  obtain ⟨g₆, T₆, F₆, K₆⟩ := kts_ground K F hBG hfl₆.1 ((hsm.trans hsm₅).trans hsm₆)
  exact wpAny_passesOwnAt hE (k h₆ g₆ T₆ F₆ (fun q hq => ⟨hfl₆.1 _ _ (hl q hq).1, (fun z => by have := (hl q hq).1; rw [z, hL] at this; cases this), T₆.none_ _ (kts_none F.keep (hl q hq).2.1)⟩) K₆ (XB.keeps K₆.stays) (TB.keeps K₆.stays))
end
end Mine
end

section
open PySem PySem.W
set_option maxRecDepth 100000
namespace Mine
def SfMade (E : Value → Shared → Prop) (v : Value) (s : Shared) : Prop :=
  ∃ e a d nm q N bs sn sub ab col dd k0 k1 k2 k3 k5, v = .ref e ∧ s.heap.get? 53 = some (SfObj nm q N bs sn sub ab col dd k0 k1 k2 k3 k5) ∧ s.heap.get? e = some (sfO a (some d)) ∧ E (.ref e) s
section
variable {M : Model} {A : Around} {E : Value → Shared → Prop} {s : Shared} {env : Env}
theorem sf_raise {f : Expr} {args : List Expr} {cpos pos : Pos} {Q : Flow → Shared → Prop} (hh : A.handled = none)
    (h : wpAny M A (eval (.Call f args [] cpos) env) (fun v s₁ => SfMade E v s₁) E s) : wpAny M A (exec (.Raise (some (.Call f args [] cpos)) none pos) env) Q E s := by
  rw [arm_exec_Raise]
  refine wpAny_bind (wpAny_standAt ?_)
  show wpAny M A (raiseStmt env (some (eval (.Call f args [] cpos) env >>= fun v => standAt pos >>= fun _ => pure v)) none) Q E s
  unfold raiseStmt
  refine wpAny_bind (wpAny_bind (wpAny_mono h (fun v s₁ h₁ => wpAny_bind (wpAny_standAt (wpAny_pure ?_))) fun _ _ x => x))
  obtain ⟨e, a, d, nm, q, N, bs, sn, sub, ab, col, dd, k0, k1, k2, k3, k5, rfl, hC, he, hE⟩ := h₁
  obtain ⟨hp, g, dr, tk, os⟩ := s₁
  repeat (first | with_reducible refine wpAny_loadPart_at he ?_ | with_reducible refine wpAny_loadPart_at hC ?_ | (with_reducible refine wpAny_isSubtype_exc hC ?_; rw [sf_hasB]) | wp_step)
  exact wpAny_raiseNew_none hh hE
end
end Mine
end

section
open PySem PySem.W PySem.Spec PySem.Calls PyProof.Rows
set_option maxRecDepth 100000
namespace Mine
abbrev CallR (pr : Program) (K : World → Frag) (d : Nat) (f : Value) (news : Led) (vs : List Value) (o : Option (Int × Int)) : Prop :=
  ∀ (w : World) (p : Program) (loose : List Str) (mean : ExcName → Option Value) (mg mb : Str → Option Value) (dp un : Nat) (gd : Option (List Code)) (cn : Str) (cs : Scope) (a : Addr) (ccd : Value) (cl : List (Str × Addr)) (outer : List Env) (A₀ : Around) (base h₀ : Heap) (L : Addr) (m : Str → Option Value) (s : Shared) (Q E : Value → Shared → Prop),
    Below A₀ base outer h₀ → Fr h₀ L s.heap m → (K w).In h₀ → News h₀ L s.heap news → Top p loose mean mg mb h₀ → cs.kind = .function → dp + d < recursionLimit → un + 10 * d < cLine →
    (∀ q, o = some q → RetP q h₀ L m news s Q) →
    (o = none → ∀ (e : Addr) (g h' : Heap) (tk' : Nat), Fr h₀ L g m → RaisedSN base g (envX cn cs L a ccd cl :: outer) e (.ref 53) news h' → g.UpToSlots h' → E (.ref e) { s with heap := h', toks := tk' }) →
      wpAny (model pr w) (ktrTop dp un gd cn cs L a ccd cl outer) (call f vs) Q E s
theorem use_callR {pr : Program} {K : World → Frag} {d : Nat} {f : Value} {news : Led} {vs : List Value} {o : Option (Int × Int)} {w : World} {p : Program} {loose : List Str} {mean : ExcName → Option Value} {mg mb : Str → Option Value} {dp un : Nat} {gd : Option (List Code)} {cn : Str} {cs : Scope} {a : Addr} {ccd : Value} {cl : List (Str × Addr)} {outer : List Env} {A₀ : Around} {base h₀ : Heap} {L : Addr} {m : Str → Option Value} {s : Shared} {Q E : Value → Shared → Prop}
    (C : CallR pr K d f news vs o) (B : Below A₀ base outer h₀) (F : Fr h₀ L s.heap m) (X : (K w).In h₀) (N : News h₀ L s.heap news) (T : Top p loose mean mg mb h₀) (hk : cs.kind = .function) (hd : dp + d < recursionLimit) (hu : un + 10 * d < cLine)
    (hR : ∀ q, o = some q → RetP q h₀ L m news s Q)
    (hE : o = none → ∀ (e : Addr) (g h' : Heap) (tk' : Nat), Fr h₀ L g m → RaisedSN base g (envX cn cs L a ccd cl :: outer) e (.ref 53) news h' → g.UpToSlots h' → E (.ref e) { s with heap := h', toks := tk' }) :
    wpAny (model pr w) (ktrTop dp un gd cn cs L a ccd cl outer) (call f vs) Q E s := C _ _ _ _ _ _ _ _ _ _ _ _ _ _ _ _ _ _ _ _ _ _ _ B F X N T hk hd hu hR hE
theorem sf_made {K : Frag} {h₀ : Heap} {L e a d : Addr} {news : Led} {s : Shared} {E : Value → Shared → Prop} {nm q : Str} {Nn : Addr} {bs : List Value} {sn : List Str} {sub : List Value} {ab : Bool} {col : Option Bool} {dd : Option Addr} {k0 k1 k2 k3 k5 : Option Value}
    (X : K.In s.heap) (hC : K.lookup 53 = some (SfObj nm q Nn bs sn sub ab col dd k0 k1 k2 k3 k5)) (N : News h₀ L s.heap ((e, sfO a (some d)) :: news)) (h : E (.ref e) s) : SfMade E (.ref e) s :=
  ⟨e, a, d, nm, q, Nn, bs, sn, sub, ab, col, dd, k0, k1, k2, k3, k5, rfl, X _ _ hC, (N _ (.head _)).1, h⟩
end Mine
end

section
open PySem PySem.W PySem.Spec PySem.Calls PyProof.Rows Mine
local macro_rules | `(tactic| walk_at "eval Call") => `(tactic| (k_here; k_dflt (refine Call_ ?_)))
local macro_rules | `(tactic| walk_at "exec Raise some none") => `(tactic| (k_here; k_dflt (refine' sf_raise ?hh ?_; (case hh => rfl); (try k_fold))))
local macro_rules | `(tactic| walk_at "SfMade") => `(tactic| (k_dflt (refine' sf_made (K := hd.heap_39 _) ?X ?c ?N ?_; (case X => k_in); (case c => k_is); (case N => k_asm))))
local macro_rules | `(tactic| walk_at "leaving ref") => `(tactic| (k_here; k_dflt (first
  | (refine' leave_sf ?K ?F ?N ?l ?_; (case N => assumption); (case l => assumption); (case K => assumption); (case F => assumption); k_whole; (intro hR' R' U'; (try dsimp only at R' U' ⊢)))
  | (refine' leave_on ?z ?K ?F ?R ?U ?_; (case z => rfl); (case R => assumption); (case K => assumption); (case F => assumption); (case U => assumption); k_whole; (intro hR' R' U'; (try dsimp only at R' U' ⊢))))))
section
open PySem PySem.W PySem.Spec PySem.Calls PyProof.Rows
set_option maxRecDepth 100000
set_option maxHeartbeats 8000000
namespace Mine
theorem words_R3 : True := by
  k_with_none
  k_with "my call ref" =>
    (k_here; k_dflt (first
      | (refine' use_call (K := fun w => hd.heap_39 w.params) (c_cut _ _ _ _ _ ?p1 ?p2) ?k1 ?k2 ?k3 ?k4 ?k5 ?kK ?kd ?ku ?_; (case p1 => first | assumption | exact pow_ne _); (case p2 => assumption); ktn_open; (intro _ _ _ _ _; (try dsimp only); (try k_fold)))
      | (refine' use_call (K := fun w => hd.heap_39 w.params) (c_dec _ _ _ _ _ ?p1 ?p2 ?p3) ?k1 ?k2 ?k3 ?k4 ?k5 ?kK ?kd ?ku ?_; (case p1 => assumption); (case p2 => omega); (case p3 => omega); ktn_open; (intro _ _ _ _ _ _ _ _ _; (try dsimp only); (try k_fold)))
      | (refine' use_call (K := fun w => hd.heap_39 w.params) (c_fits _ _ _ _ _ ?p1 ?p2) ?k1 ?k2 ?k3 ?k4 ?k5 ?kK ?kd ?ku ?_; (case p1 => decide); (case p2 => decide); ktn_open; (intro _ _ _ _; (try dsimp only); (try k_fold)))
      | (refine' use_call (K := fun w => hd.heap_39 w.params) (c_sf _ _ _) ?k1 ?k2 ?k3 ?k4 ?k5 ?kK ?kd ?ku ?_; ktn_open; (intro _ _ _ _ _ _ _ _; (try dsimp only); (try k_fold)))))
  trivial
theorem c_kept (news : Led) (u c : Int) (tu tc : Tok) (hu : Mag 900 u) (h0 : 0 ≤ c) (h1 : c ≤ 200) :
    CallR PySem.Challenge.rw_pc0121_01.row.prog (fun w => hd.heap_39 w.params) 8 (.ref 77) news [.int u tu, .int c tc] (keep u c) := by
  w_top off
  k_fill
  have m1 : Mag 1000 u := hu.mono (by decide)
  have m2 : Mag 1000 ((10 : Int) ^ (c - 30).toNat) := mag_pow (by omega)
  have m3 : Mag 1000 (u.tdiv ((10 : Int) ^ (c - 30).toNat)) := m1.tdiv
  dsimp only [CallR]
  intros
  rename_i hret hexc
  refine wpAny_call ?_
  k_dflt cell_enter
  k_steps
  · rename_i l9 kF kN Tc kX
    exact ret_P (hret _ (keep_cut (by assumption) (by assumption))) rfl kF kN (.head _) (fun _ h => .tail _ h) l9
  · rename_i R' U'
    exact hexc (keep_cutN (by assumption) (by assumption)) _ _ _ _ (by assumption) R' U'
  · rename_i l9 kF kN Tc kX
    exact ret_P (hret _ (keep_as (by assumption) (by assumption))) rfl kF kN (.head _) (fun _ h => .tail _ h) l9
  · rename_i R' U'
    exact hexc (keep_asN (by assumption) (by assumption)) _ _ _ _ (by assumption) R' U'
end Mine
end

section
open PySem PySem.W PySem.Spec PySem.Calls PyProof.Rows
set_option maxRecDepth 100000
set_option maxHeartbeats 8000000
namespace Mine
theorem words_R4 : True := by
  k_with_none
  k_with "my call ref" =>
    (k_here; k_dflt (refine' use_callR (K := fun w => hd.heap_39 w.params) (c_kept _ _ _ _ _ ?p1 ?p2 ?p3) ?k1 ?k2 ?k3 ?k4 ?k5 ?kK ?kd ?ku ?_ ?_; (case p1 => assumption); (case p2 => omega); (case p3 => omega); ktn_open; (all_goals first | ((with_reducible show ∀ _ : Int × Int, _); intro _ hq9 _ _ _ _ h9 tk9 _ _ _; (try dsimp only); (try k_fold)) | (intro _ _ _ _ _ _ _ _; (try dsimp only); (try k_fold)))))
  trivial
theorem c_times (news : Led) (a b : Int × Int) (ra rb : Addr) (ta ua tb ub : Tok) (ca cb : Nat) (hra : (ra, tupO a.1 a.2 ta ua ca) ∈ news) (hrb : (rb, tupO b.1 b.2 tb ub cb) ∈ news) (ha : Ok 400 a) (hb : Ok 400 b) :
    CallR PySem.Challenge.rw_pc0121_01.row.prog (fun w => hd.heap_39 w.params) 10 (.ref 84) news [.ref ra, .ref rb] (keep (a.1 * b.1) (a.2 + b.2)) := by
  w_top off
  k_fill
  obtain ⟨a0, a1⟩ := a
  obtain ⟨b0, b1⟩ := b
  obtain ⟨ha0, ha1, ha2⟩ := ha
  obtain ⟨hb0, hb1, hb2⟩ := hb
  dsimp only at *
  have q1 := ha0.ok hb0 (by decide) (by decide)
  have m1 : Mag 900 (a0 * b0) := (ha0.mul hb0).mono (by decide)
  dsimp only [CallR]
  intros
  rename_i hret hexc
  refine wpAny_call ?_
  k_dflt cell_enter
  k_steps
  · rename_i l9 kF kN Tc kX
    exact ret_P (hret _ (by assumption)) rfl kF kN (.head _) (fun _ h => .tail _ h) l9
  · rename_i R' U'
    exact hexc (by assumption) _ _ _ _ (by assumption) R' U'
end Mine
end

section
open PySem PySem.W PySem.Spec PySem.Calls PyProof.Rows
set_option maxRecDepth 100000
set_option maxHeartbeats 8000000
namespace Mine
theorem words_R5 : True := by
  k_with_none
  k_with "my call ref" =>
    (k_here; k_dflt (first
      | (refine' use_call (K := fun w => hd.heap_39 w.params) (c_cut _ _ _ _ _ ?p1 ?p2) ?k1 ?k2 ?k3 ?k4 ?k5 ?kK ?kd ?ku ?_; (case p1 => first | assumption | ((rename (_ ≠ (0:Int) → _ ≠ (0:Int)) => hI); exact hI (by assumption))); (case p2 => assumption); ktn_open; (intro _ _ _ _ _; (try dsimp only); (try k_fold)))
      | (refine' use_call (K := fun w => hd.heap_39 w.params) (c_dec _ _ _ _ _ ?p1 ?p2 ?p3) ?k1 ?k2 ?k3 ?k4 ?k5 ?kK ?kd ?ku ?_; (case p1 => assumption); (case p2 => omega); (case p3 => omega); ktn_open; (intro _ _ _ _ _ _ _ _ _; (try dsimp only); (try k_fold)))
      | (refine' use_call (K := fun w => hd.heap_39 w.params) (c_sf _ _ _) ?k1 ?k2 ?k3 ?k4 ?k5 ?kK ?kd ?ku ?_; ktn_open; (intro _ _ _ _ _ _ _ _; (try dsimp only); (try k_fold)))))
  trivial
theorem c_quot3 (news : Led) (a b : Int × Int) (many : Int) (ra rb : Addr) (ta ua tb ub tm : Tok) (ca cb : Nat) (hra : (ra, tupO a.1 a.2 ta ua ca) ∈ news) (hrb : (rb, tupO b.1 b.2 tb ub cb) ∈ news)
    (ha : Ok 400 a) (hb : Ok 400 b) (hm0 : 0 ≤ many) (hm1 : many ≤ 100) :
    CallR PySem.Challenge.rw_pc0121_01.row.prog (fun w => hd.heap_39 w.params) 8 (.ref 92) news [.ref ra, .ref rb, .int many tm] (quo a b many) := by
  w_top off
  k_fill
  obtain ⟨a0, a1⟩ := a
  obtain ⟨b0, b1⟩ := b
  obtain ⟨ha0, ha1, ha2⟩ := ha
  obtain ⟨hb0, hb1, hb2⟩ := hb
  dsimp only at *
  have p1 : Mag 300 ((10 : Int) ^ (many + b1).toNat) := mag_pow (by omega)
  have p2 : Mag 300 ((10 : Int) ^ a1.toNat) := mag_pow (by omega)
  have q1 := ha0.ok p1 (by decide) (by decide)
  have q2 := hb0.ok p2 (by decide) (by decide)
  have m1 : Mag 1000 (b0 * 10 ^ a1.toNat) := (hb0.mul p2).mono (by decide)
  have m2 : Mag 1000 (Int.tdiv (a0 * 10 ^ (many + b1).toNat) (b0 * 10 ^ a1.toNat)) := ((ha0.mul p1).mono (by decide)).tdiv
  have hz : b0 ≠ 0 → b0 * 10 ^ a1.toNat ≠ 0 := fun h => Int.mul_ne_zero h (pow_ne _)
  dsimp only [CallR]
  intros
  rename_i hret hexc
  refine wpAny_call ?_
  k_dflt cell_enter
  k_steps
  · rename_i R' U'
    exact hexc (quo_none (by assumption)) _ _ _ _ (by assumption) R' U'
  · rename_i l9 kF kN Tc kX
    exact ret_P (hret _ (quo_some (by assumption))) rfl kF kN (.head _) (fun _ h => .tail _ h) l9
theorem c_quot2 (news : Led) (a b : Int × Int) (ra rb : Addr) (ta ua tb ub : Tok) (ca cb : Nat) (hra : (ra, tupO a.1 a.2 ta ua ca) ∈ news) (hrb : (rb, tupO b.1 b.2 tb ub cb) ∈ news)
    (ha : Ok 400 a) (hb : Ok 400 b) :
    CallR PySem.Challenge.rw_pc0121_01.row.prog (fun w => hd.heap_39 w.params) 8 (.ref 92) news [.ref ra, .ref rb] (quo a b 30) := by
  w_top off
  k_fill
  obtain ⟨a0, a1⟩ := a
  obtain ⟨b0, b1⟩ := b
  obtain ⟨ha0, ha1, ha2⟩ := ha
  obtain ⟨hb0, hb1, hb2⟩ := hb
  dsimp only at *
  have p1 : Mag 300 ((10 : Int) ^ (30 + b1).toNat) := mag_pow (by omega)
  have p2 : Mag 300 ((10 : Int) ^ a1.toNat) := mag_pow (by omega)
  have q1 := ha0.ok p1 (by decide) (by decide)
  have q2 := hb0.ok p2 (by decide) (by decide)
  have m1 : Mag 1000 (b0 * 10 ^ a1.toNat) := (hb0.mul p2).mono (by decide)
  have m2 : Mag 1000 (Int.tdiv (a0 * 10 ^ (30 + b1).toNat) (b0 * 10 ^ a1.toNat)) := ((ha0.mul p1).mono (by decide)).tdiv
  have hz : b0 ≠ 0 → b0 * 10 ^ a1.toNat ≠ 0 := fun h => Int.mul_ne_zero h (pow_ne _)
  dsimp only [CallR]
  intros
  rename_i hret hexc
  refine wpAny_call ?_
  k_dflt cell_enter
  k_steps
  · rename_i R' U'
    exact hexc (quo_none (by assumption)) _ _ _ _ (by assumption) R' U'
  · rename_i l9 kF kN Tc kX
    exact ret_P (hret _ (quo_some (by assumption))) rfl kF kN (.head _) (fun _ h => .tail _ h) l9
end Mine
end

section
open PySem PySem.W PySem.Spec PySem.Calls PyProof.Rows
namespace Mine
noncomputable def pw (g : Int × Int → Option (Int × Int)) (p : Int × Int) : Nat → Option (Int × Int)
  | 0 => some p
  | n + 1 => (pw g p n).bind g
theorem pw_next {g : Int × Int → Option (Int × Int)} {p q z : Int × Int} {i : Nat} (h : pw g p i = some q) (hz : g q = some z) : pw g p (i + 1) = some z := by
  show (pw g p i).bind g = _
  rw [h]; exact hz
theorem pw_stop {g : Int × Int → Option (Int × Int)} {p q : Int × Int} {i n : Nat} (h : pw g p i = some q) (hz : g q = none) (hi : i < n) : pw g p n = none := by
  have h1 : pw g p (i + 1) = none := by
    show (pw g p i).bind g = _
    rw [h]; exact hz
  obtain ⟨d, rfl⟩ : ∃ d, n = i + 1 + d := ⟨n - (i + 1), by omega⟩
  clear hi
  induction d with
  | zero => exact h1
  | succ d ih =>
    show (pw g p (i + 1 + d)).bind g = none
    rw [ih]; rfl
theorem pw_inv {g : Int × Int → Option (Int × Int)} {p : Int × Int} (I : Int × Int → Prop) (h0 : I p) (hs : ∀ q z, I q → g q = some z → I z) : ∀ i q, pw g p i = some q → I q := by
  intro i
  induction i with
  | zero => intro q h; cases h; exact h0
  | succ i ih =>
    intro q h
    have h' : (pw g p i).bind g = some q := h
    obtain ⟨z, hz, hq⟩ := Option.bind_eq_some_iff.mp h'
    exact hs z q (ih z hz) hq
theorem allLt_mem {d : Addr} : ∀ {l : Led}, AllLt d l → ∀ p ∈ l, p.1 < d
  | [], _, _, h => nomatch h
  | _ :: _, h, p, hp => by
    rcases List.mem_cons.mp hp with rfl | hp
    · exact h.1
    · exact allLt_mem h.2 p hp
def PowEnd (low : Led) (h₀ : Heap) (L : Addr) (x y : Str) (stored : List Str) (m₀ : Str → Option Value) (I : Addr) (oI : Obj) (news : Led) (o : Option (Int × Int)) (s₁ s₂ : Shared) : Prop :=
  ∃ h' tk m' r q0 q1 t v c, s₂ = { s₁ with heap := h', toks := tk } ∧ o = some (q0, q1) ∧ Fr h₀ L h' m' ∧ News h₀ L h' ((r, tupO q0 q1 t v c) :: (I, oI) :: news) ∧ r ≠ I ∧ m' y = some (.ref r) ∧ (∀ z, z ≠ x → z ≠ y → stored.contains z = false → m' z = m₀ z) ∧ ∀ q ∈ low, q.1 < r
theorem PowEnd.intro {low : Led} {h₀ : Heap} {L : Addr} {x y : Str} {stored : List Str} {m₀ m' : Str → Option Value} {I r : Addr} {oI : Obj} {news news' : Led} {o : Option (Int × Int)} {s₁ : Shared} {h' : Heap} {tk c : Nat} {q0 q1 : Int} {t v : Tok}
    (e : o = some (q0, q1)) (F : Fr h₀ L h' m') (N : News h₀ L h' ((r, tupO q0 q1 t v c) :: news')) (hi : (I, oI) ∈ news') (hn : ∀ q ∈ news, q ∈ news') (hw : ∀ q ∈ low, q ∈ news') (hl : ∀ q ∈ news', q.1 < r) (hm : m' y = some (.ref r)) (ho : ∀ z, z ≠ x → z ≠ y → stored.contains z = false → m' z = m₀ z) :
    PowEnd low h₀ L x y stored m₀ I oI news o s₁ { s₁ with heap := h', toks := tk } :=
  ⟨h', tk, m', r, q0, q1, t, v, c, rfl, e, F, fun q hq => by
    rcases List.mem_cons.mp hq with rfl | hq
    · exact N _ (.head _)
    · rcases List.mem_cons.mp hq with rfl | hq
      · exact N _ (.tail _ hi)
      · exact N _ (.tail _ (hn q hq)), fun z => absurd (hl _ hi) (by rw [z]; exact Nat.lt_irrefl _), hm, ho, fun q hq => hl q (hw q hq)⟩
abbrev PowPost (low : Led) (h₀ : Heap) (L : Addr) (x y : Str) (stored : List Str) (m₀ : Str → Option Value) (I : Addr) (oI : Obj) (news : Led) (o : Option (Int × Int)) (s₁ : Shared) (Q : Flow → Shared → Prop) (f : Flow) (s₂ : Shared) : Prop :=
  match f with
  | .ret v => Q (.ret v) s₂
  | .brk => Q .next s₂
  | _ => PowEnd low h₀ L x y stored m₀ I oI news o s₁ s₂
section
variable {prog : Program} {w : World} {A : Around} {E : Value → Shared → Prop} {s : Shared} {env : Env} {h₀ : Heap} {x : Str} {body : List Stmt} {Q : Flow → Shared → Prop}
theorem iter_pow {r r0 : Addr} {t₀ u₀ v₀ t u : Tok} {c n : Nat} {m₀ : Str → Option Value} {news : Led} {p₀ : Int × Int} (low : Led) (y : Str) (stored : List Str) (g : Int × Int → Option (Int × Int)) (Inv : Int × Int → Prop)
    (hI : ∀ i p, pw g p₀ i = some p → Inv p)
    (hh : A.handled = none) (hr : IsRange s.heap r 0 (n : Int) 1 t₀ u₀ v₀) (hn9 : n ≤ 1000) (F : Fr h₀ env.locals s.heap m₀) (N : News h₀ env.locals s.heap news)
    (hp : (r0, tupO p₀.1 p₀.2 t u c) ∈ news) (hy : m₀ y = some (.ref r0)) (hyx : y ≠ x) (hl : ∀ q ∈ low, q.1 < r0)
    (turn : ∀ (i : Nat) p0 p1, pw g p₀ i = some (p0, p1) → i < n → Inv (p0, p1) → ∀ k tk' (u : Str → Option Value) h tk r t v c I oI, (∀ q ∈ news, q.1 < I) → (∀ q ∈ low, q.1 < r) → Fr h₀ env.locals h (fun z => if z = x then some (.int k tk') else if z = y then some (.ref r) else if stored.contains z then u z else m₀ z) → News h₀ env.locals h ((r, tupO p0 p1 t v c) :: (I, oI) :: news) →
      wpAny (model prog w) A (execs body env) (PowPost low h₀ env.locals x y stored m₀ I oI news (g (p0, p1)) { s with heap := h, toks := tk } Q) E { s with heap := h, toks := tk })
    (done : ∀ (p0 p1 : Int), pw g p₀ n = some (p0, p1) → Inv (p0, p1) → ∀ (u : Str → Option Value) h tk r t v c, (∀ q ∈ low, q.1 < r) → Fr h₀ env.locals h (fun z => if z = x then u z else if z = y then some (.ref r) else if stored.contains z then u z else m₀ z) → News h₀ env.locals h ((r, tupO p0 p1 t v c) :: news) → Q .next { s with heap := h, toks := tk }) :
    wpAny (model prog w) A (pyIter (.ref r)) (fun it s₂ => LoopAtV prog w A h₀ env x body Q E it s₂) E s := by
  have hn : Builtin.Range.rangeSize 0 (n : Int) 1 = (n : Int) := by rw [rangeSize_nat]; omega
  refine wpAny_pyIter_range hr (small_one (by omega) (by omega) (by omega) (by omega)) ?_
  have W : Walks prog w A s.heap.objs.size [s.heap.objs.size] [s.heap.objs.size] n (fun i v => i < n ∧ ∃ t, v = .int (0 + i * 1) t)
      (fun i h => IsRangeIter h s.heap.objs.size (0 + (i : Nat) * 1) ((n : Int) - (i : Nat)) 1) := (Walks.range hh _ 0 1 n).bound
  have hlt : ∀ q ∈ news, q.1 < s.heap.objs.size := fun q hq => Heap.lt_size (N q hq).1
  refine ⟨s.heap.objs.size, _, _, n, _, _, m₀, (r0, tupO p₀.1 p₀.2 t u c) :: news, (fun i m nx => ∃ p0 p1 r t v c, pw g p₀ i = some (p0, p1) ∧ nx = (r, tupO p0 p1 t v c) :: news ∧ m y = some (.ref r) ∧ (∀ z, z ≠ x → z ≠ y → stored.contains z = false → m z = m₀ z) ∧ ∀ q ∈ low, q.1 < r), rfl, W, ?_, ?_, ?_, (by show IsRangeIter _ _ _ _ _; rw [hn]; simpa using Heap.get?_push_size _ rfl), F.push _, ?_, ⟨_, _, _, _, _, _, rfl, rfl, hy, fun _ _ _ _ => rfl, hl⟩, ?_, ?_⟩
  · intro hm
    exact absurd F.ns.lt ((List.mem_singleton.mp hm) ▸ Nat.lt_irrefl _)
  · intro b hb
    rw [List.mem_singleton.mp hb]
    exact next_is_new F
  · intro q hq hI
    rcases List.mem_cons.mp hq with rfl | hq
    · exact absurd (hlt _ hp) ((List.mem_singleton.mp hI) ▸ Nat.lt_irrefl _)
    · exact absurd (hlt _ hq) ((List.mem_singleton.mp hI) ▸ Nat.lt_irrefl _)
  · intro q hq
    rcases List.mem_cons.mp hq with rfl | hq
    · exact ⟨Heap.get?_push_of_some _ (N _ hp).1, (N _ hp).2⟩
    · exact ⟨Heap.get?_push_of_some _ (N _ hq).1, (N _ hq).2⟩
  · rintro i v m₁ news₁ s₁ own ⟨hh', tk', rfl⟩ hin ⟨_, tv, rfl⟩ ⟨p0, p1, r, t, v, c, e, rfl, hm, ho, hw⟩ hoff hown hat hgot hst F₁ N₁
    obtain ⟨oI, hoI⟩ : ∃ oI, hh'.get? s.heap.objs.size = some oI := ⟨_, hst⟩
    have hmem := hgot _ List.mem_cons_self (next_is_new F) oI hoI
    have e2 : (fun z => if z = x then some (Value.int (0 + (i : Nat) * 1) tv) else m₁ z) = (fun z => if z = x then some (Value.int (0 + (i : Nat) * 1) tv) else if z = y then some (.ref r) else if stored.contains z then m₁ z else m₀ z) := by
      funext z
      by_cases h1 : z = x
      · simp [h1]
      · simp only [if_neg h1]
        by_cases h2 : z = y
        · subst h2; simp [hm]
        · simp only [if_neg h2]
          cases h3 : stored.contains z with
          | true => simp
          | false => simpa using ho z h1 h2 h3
    rw [e2] at F₁
    refine wpAny_mono (turn i p0 p1 e hin (hI _ _ e) _ tv m₁ hh' tk' r t v c _ oI hlt hw F₁ fun q hq => ?_) (fun f s₂ p => ?_) fun _ _ e => e
    · rcases List.mem_cons.mp hq with rfl | hq
      · exact N₁ _ (List.mem_append.mpr (.inr (.head _)))
      · rcases List.mem_cons.mp hq with rfl | hq
        · exact N₁ _ (List.mem_append.mpr (.inl hmem))
        · exact N₁ _ (List.mem_append.mpr (.inr (.tail _ hq)))
    · have hownI : ∀ q ∈ own, q = (s.heap.objs.size, oI) := by
        intro q hq
        have h1 := List.mem_singleton.mp (hown q hq)
        have h2 := hat q hq
        rw [h1, hoI] at h2
        obtain ⟨q1, q2⟩ := q
        dsimp only at h1 h2
        rw [h1, Option.some.inj h2]
      have fin : (∃ h' tk m' r q0 q1 t v c, s₂ = { s with heap := h', toks := tk } ∧ g (p0, p1) = some (q0, q1) ∧ Fr h₀ env.locals h' m' ∧ News h₀ env.locals h' ((r, tupO q0 q1 t v c) :: (s.heap.objs.size, oI) :: news) ∧ r ≠ s.heap.objs.size ∧ m' y = some (.ref r) ∧ (∀ z, z ≠ x → z ≠ y → stored.contains z = false → m' z = m₀ z) ∧ ∀ q ∈ low, q.1 < r) → LoopStepU h₀ env.locals [s.heap.objs.size] own (fun m nx => ∃ p0 p1 r t v c, pw g p₀ (i + 1) = some (p0, p1) ∧ nx = (r, tupO p0 p1 t v c) :: news ∧ m y = some (.ref r) ∧ (∀ z, z ≠ x → z ≠ y → stored.contains z = false → m z = m₀ z) ∧ ∀ q ∈ low, q.1 < r) { s with heap := hh', toks := tk' } .next s₂ := by
        rintro ⟨h', tk, m', r, q0, q1, t, v, c, rfl, hg, F', N', hrI, hm', ho', hw'⟩
        refine ⟨rfl, h', tk, m', (r, tupO q0 q1 t v c) :: news, rfl, F', fun q hq => ?_, ?_, q0, q1, r, t, v, c, pw_next e hg, rfl, hm', ho', hw'⟩
        · rcases List.mem_append.mp hq with hq | hq
          · rw [hownI q hq]; exact N' _ (.tail _ (.head _))
          · rcases List.mem_cons.mp hq with rfl | hq
            · exact N' _ (.head _)
            · exact N' _ (.tail _ (.tail _ hq))
        · intro q hq hw
          rcases List.mem_cons.mp hq with rfl | hq
          · exact hrI (List.mem_singleton.mp hw)
          · exact absurd (hlt q hq) ((List.mem_singleton.mp hw) ▸ Nat.lt_irrefl _)
      cases f with
      | ret v => exact .ret p
      | brk => exact .brk p
      | next => exact .next (fin p)
      | cont => exact .cont (fin p)
  · rintro h' tk m' news' F' N' _ ⟨p0, p1, r, t, v, c, e, rfl, hm, ho, hw⟩
    have e2 : m' = (fun z => if z = x then m' z else if z = y then some (.ref r) else if stored.contains z then m' z else m₀ z) := by
      funext z
      by_cases h1 : z = x
      · simp [h1]
      · simp only [if_neg h1]
        by_cases h2 : z = y
        · subst h2; simp [hm]
        · simp only [if_neg h2]
          cases h3 : stored.contains z with
          | true => simp
          | false => simpa using ho z h1 h2 h3
    rw [e2] at F'
    exact done p0 p1 e (hI _ _ e) m' h' tk r t v c hw F' N'
end
theorem led_add {h₀ h : Heap} {L : Addr} {news : Led} {q : Addr × Obj} (N : News h₀ L h news) (hq : q ∈ news) : News h₀ L h (q :: news) := fun p hp => by
  rcases List.mem_cons.mp hp with rfl | hp
  · exact N _ hq
  · exact N _ hp
noncomputable def lpow (a : Int × Int) (k : Int) : Option (Int × Int) := (pw (fun p => keep (p.1 * a.1) (p.2 + a.2)) (1, 0) k.natAbs).bind fun f => if 0 ≤ k then some f else quo (1, 0) f 30
theorem lpow_none {a : Int × Int} {k : Int} (h : pw (fun p => keep (p.1 * a.1) (p.2 + a.2)) (1, 0) k.natAbs = none) : lpow a k = none := by unfold lpow; rw [h]; rfl
theorem lpow_pos {a p : Int × Int} {k : Int} (h : pw (fun p => keep (p.1 * a.1) (p.2 + a.2)) (1, 0) k.natAbs = some p) (hk : 0 ≤ k) : lpow a k = some p := by
  unfold lpow; rw [h]; exact if_pos hk
theorem lpow_neg {a p : Int × Int} {k : Int} (h : pw (fun p => keep (p.1 * a.1) (p.2 + a.2)) (1, 0) k.natAbs = some p) (hk : ¬ 0 ≤ k) : lpow a k = quo (1, 0) p 30 := by
  unfold lpow; rw [h]; exact if_neg hk
/-- what holds of what has been found so far -/
structure PwI (a : Int × Int) (p : Int × Int) : Prop where
  ok : Ok 120 p
  sc : p.2 ≤ 30
  fits : IntMulOk p.1 a.1
  mag : Mag 900 (p.1 * a.1)
theorem PwI.ok400 {a : Int × Int} {p : Int × Int} (h : PwI a p) : Ok 400 p := ⟨h.ok.mag.mono (by decide), h.ok.lo, h.ok.hi⟩
theorem pw_all {a : Int × Int} (ha : Ok 400 a) : ∀ i p, pw (fun p => keep (p.1 * a.1) (p.2 + a.2)) (1, 0) i = some p → PwI a p := by
  intro i p h
  have key : Ok 120 p ∧ p.2 ≤ 30 := pw_inv (fun p => Ok 120 p ∧ p.2 ≤ 30) ⟨⟨(by unfold Mag; decide), by decide, by decide⟩, by decide⟩ (fun q z ⟨hq, _⟩ hz => keep_ok (by have := hq.lo; have := ha.lo; omega) hz) i p h
  exact ⟨key.1, key.2, key.1.mag.ok ha.mag (by decide) (by decide), (key.1.mag.mul ha.mag).mono (by decide)⟩
theorem big_not {x : Int} (h : (10 : Int) ^ Int.toNat 120 ≤ ((x.natAbs : Nat) : Int)) : ¬ x.natAbs < 10 ^ 120 := by
  rw [← Int.ofNat_lt, show ((10 ^ 120 : Nat) : Int) = (10 : Int) ^ Int.toNat 120 by decide +kernel]
  omega
theorem small_lt {x : Int} (h : ¬ (10 : Int) ^ Int.toNat 120 ≤ ((x.natAbs : Nat) : Int)) : x.natAbs < 10 ^ 120 := by
  rw [← Int.ofNat_lt, show ((10 ^ 120 : Nat) : Int) = (10 : Int) ^ Int.toNat 120 by decide +kernel]
  omega
theorem ok_one : Ok 400 (1, 0) := ⟨by unfold Mag; decide +kernel, by decide, by decide⟩
end Mine
end

section
open PySem PySem.W PySem.Spec PySem.Calls PyProof.Rows
set_option maxRecDepth 100000
set_option maxHeartbeats 8000000
namespace Mine
theorem c_lquo4 (news : Led) (a0 a1 b0 b1 : Int) (many : Int) (ra rb : Addr) (ta ua tb ub tm : Tok) (ca cb : Nat) (hra : (ra, tupO a0 a1 ta ua ca) ∈ news) (hrb : (rb, tupO b0 b1 tb ub cb) ∈ news)
    (ha : Ok 400 (a0, a1)) (hb : Ok 400 (b0, b1)) (hm0 : 0 ≤ many) (hm1 : many ≤ 100) :
    CallS PySem.Challenge.rw_pc0121_01.row.prog (fun w => hd.heap_39 w.params) 4 (.ref 141) news [.ref ra, .ref rb, .int many tm] (RetO (quo (a0, a1) (b0, b1) many)) := c_lquo news (a0, a1) (b0, b1) many ra rb ta ua tb ub tm ca cb hra hrb ha hb hm0 hm1
theorem words_P1 : True := by
  k_with_none
  k_with "my call ref" =>
    (k_here; k_dflt (first
      | (refine' use_call (K := fun w => hd.heap_39 w.params) (c_lcut _ _ _ _ _ ?p1 ?p2) ?k1 ?k2 ?k3 ?k4 ?k5 ?kK ?kd ?ku ?_; (case p1 => exact Int.pow_pos (by decide)); (case p2 => exact mag_pow (by omega)); ktn_open; (intro _ _ _ _ _; (try dsimp only); (try k_fold)))
      | (refine' use_call (K := fun w => hd.heap_39 w.params) (c_lplain _ _ _ _ _ ?p1 ?p2 ?p3) ?k1 ?k2 ?k3 ?k4 ?k5 ?kK ?kd ?ku ?_; (case p1 => first | exact Mag.mono (n := 900) (by assumption) (by decide) | exact Mag.mono (n := 900) (Mag.tdiv (by assumption)) (by decide)); (case p2 => omega); (case p3 => omega); ktn_open; (intro _ _ _ _ _ _ _ _ _; (try dsimp only); (try k_fold)))
      | (refine' use_call (K := fun w => hd.heap_39 w.params) (c_lquo4 _ _ _ _ _ _ _ _ _ _ _ _ _ _ _ ?p1 ?p2 ?p3 ?p4 ?p5 ?p6) ?k1 ?k2 ?k3 ?k4 ?k5 ?kK ?kd ?ku ?_; ktn_open; (case p1 => (repeat (first | exact List.mem_cons_self | assumption | refine List.mem_cons_of_mem _ ?_))); (case p2 => (repeat (first | exact List.mem_cons_self | assumption | refine List.mem_cons_of_mem _ ?_))); (case p3 => (first | assumption | exact ok_one | exact PwI.ok400 (by assumption))); (case p4 => (first | assumption | exact ok_one | exact PwI.ok400 (by assumption))); (case p5 => decide); (case p6 => decide); (try dsimp only [RetO]); refine ⟨?_, ?_⟩; (all_goals first | ((with_reducible show ∀ _ : Int × Int, _); (intro _ _ _ _ _ _ _ _ _ _ _); (try dsimp only); (try k_fold)) | ((intro _ _ _ _ _); (try dsimp only); (try k_fold))))))
  k_with "my pyIter ref" =>
    (k_here; k_dflt (refine' iter_pow _ "found" ["units", "scale"] ?g ?Inv ?hI ?hh ?hr ?hn ?F ?N ?hp ?hy ?hyx ?hl ?_ ?_; (case hI => assumption); (case hh => exact rfl); (case hr => assumption); (case hn => assumption); (case F => k_asm); (case N => k_asm); (case hy => exact rfl); (case hp => (first | assumption | exact .head _ | exact .tail _ (.head _) | exact .tail _ (.tail _ (.head _)) | exact .tail _ (.tail _ (.tail _ (.head _))))); (case hyx => decide); (case hl => ((rename (_ ∧ AllLt _ _) => hA9); (have hA8 := allLt_mem hA9.2); assumption)); (all_goals first | ((with_reducible show ∀ _ : Nat, _); (intro _ _ _ e9 _ I9 _ _ _ _ _ _ _ _ _ _ _ _ _ _ _); obtain ⟨⟨mq9, lq9, hq9⟩, sq9, ft9, mm9⟩ := I9; (try dsimp only at mq9 lq9 hq9 sq9 ft9 mm9 e9 ⊢); (try k_fold)) | ((intro _ _ _ _ _ _ _ _ _ _ _ _ _ _); (try dsimp only); (try k_fold)))))
  trivial
theorem c_lpow (news : Led) (a0 a1 k : Int) (ra : Addr) (ta ua tk : Tok) (ca : Nat) (hra : (ra, tupO a0 a1 ta ua ca) ∈ news)
    (ha : Ok 400 (a0, a1)) (hk : k.natAbs ≤ 1000) :
    CallS PySem.Challenge.rw_pc0121_01.row.prog (fun w => hd.heap_39 w.params) 6 (.ref 148) news [.ref ra, .int k tk] (RetO (lpow (a0, a1) k)) := by
  w_top off
  k_fill
  have hI := pw_all ha
  obtain ⟨ha0, ha1, ha2⟩ := ha
  dsimp only at *
  dsimp only [CallS, RetO]
  intros
  rename_i hret
  (have N0 := led_add (by assumption) hra)
  refine wpAny_call ?_
  k_dflt cell_enter
  k_steps
  · rename_i kF kN Tc kX
    exact hret.1 (lpow_none (pw_stop (by assumption) (keep_cutN (by assumption) (big_not (by assumption))) (by assumption))) _ _ kF (fun q hq => kN q (by (repeat (first | assumption | refine List.mem_cons_of_mem _ ?_))))
  · rename_i F9 N9
    exact PowEnd.intro (keep_cut (by assumption) (small_lt (by assumption))) F9 N9 (by (first | exact List.mem_cons_self | assumption | (refine List.mem_cons_of_mem _ ?_; (first | exact List.mem_cons_self | assumption | (refine List.mem_cons_of_mem _ ?_; (first | exact List.mem_cons_self | assumption | (refine List.mem_cons_of_mem _ ?_; (first | exact List.mem_cons_self | assumption | (refine List.mem_cons_of_mem _ ?_; (first | exact List.mem_cons_self | assumption | (refine List.mem_cons_of_mem _ ?_; (first | exact List.mem_cons_self | assumption | (refine List.mem_cons_of_mem _ ?_; (first | exact List.mem_cons_self | assumption | (refine List.mem_cons_of_mem _ ?_; (first | exact List.mem_cons_self | assumption)))))))))))))))) (fun q hq => by (repeat (first | assumption | refine List.mem_cons_of_mem _ ?_))) (fun q hq => by (repeat (first | assumption | refine List.mem_cons_of_mem _ ?_))) (by assumption) rfl (fun z h1 h2 h3 => by
      have h4 : z ≠ Str.ofString "units" := fun e => by subst e; exact absurd h3 (by decide)
      have h5 : z ≠ Str.ofString "scale" := fun e => by subst e; exact absurd h3 (by decide)
      simp only [if_neg h1, if_neg h2, if_neg h4, if_neg h5, h3, Bool.false_eq_true, if_false])
  · rename_i kF kN Tc kX
    exact hret.1 (lpow_none (pw_stop (by assumption) (keep_asN (by assumption) (big_not (by assumption))) (by assumption))) _ _ kF (fun q hq => kN q (by (repeat (first | assumption | refine List.mem_cons_of_mem _ ?_))))
  · rename_i F9 N9
    exact PowEnd.intro (keep_as (by assumption) (small_lt (by assumption))) F9 N9 (by (first | exact List.mem_cons_self | assumption | (refine List.mem_cons_of_mem _ ?_; (first | exact List.mem_cons_self | assumption | (refine List.mem_cons_of_mem _ ?_; (first | exact List.mem_cons_self | assumption | (refine List.mem_cons_of_mem _ ?_; (first | exact List.mem_cons_self | assumption | (refine List.mem_cons_of_mem _ ?_; (first | exact List.mem_cons_self | assumption | (refine List.mem_cons_of_mem _ ?_; (first | exact List.mem_cons_self | assumption | (refine List.mem_cons_of_mem _ ?_; (first | exact List.mem_cons_self | assumption | (refine List.mem_cons_of_mem _ ?_; (first | exact List.mem_cons_self | assumption)))))))))))))))) (fun q hq => by (repeat (first | assumption | refine List.mem_cons_of_mem _ ?_))) (fun q hq => by (repeat (first | assumption | refine List.mem_cons_of_mem _ ?_))) (by assumption) rfl (fun z h1 h2 h3 => by
      have h4 : z ≠ Str.ofString "units" := fun e => by subst e; exact absurd h3 (by decide)
      have h5 : z ≠ Str.ofString "scale" := fun e => by subst e; exact absurd h3 (by decide)
      simp only [if_neg h1, if_neg h2, if_neg h4, if_neg h5, h3, Bool.false_eq_true, if_false])
  · rename_i kF kN Tc kX
    exact ret_P (hret.2 _ (lpow_pos (by assumption) (by assumption))) rfl kF kN (.head _) (fun q hq => by (repeat (first | assumption | refine List.mem_cons_of_mem _ ?_))) (by assumption)
  · rename_i kF kN Tc kX
    exact hret.1 (by rw [lpow_neg (by assumption) (by assumption)]; assumption) _ _ kF (fun q hq => kN q (by (repeat (first | assumption | refine List.mem_cons_of_mem _ ?_))))
  · rename_i l9 kF kN Tc kX
    exact ret_P (hret.2 _ (by rw [lpow_neg (by assumption) (by assumption)]; assumption)) rfl kF kN (.head _) (fun q hq => by (repeat (first | assumption | refine List.mem_cons_of_mem _ ?_))) (fun q hq => l9 q (by (repeat (first | assumption | refine List.mem_cons_of_mem _ ?_))))
end Mine
end

section
open PySem PySem.W PySem.Spec PySem.Calls PyProof.Rows
set_option maxRecDepth 100000
set_option maxHeartbeats 8000000
namespace Mine
noncomputable def pwr (a b : Int × Int) : Option (Int × Int) := if b.2 ≠ 0 ∨ 99 < b.1.natAbs ∨ (a.1 = 0 ∧ b.1 < 1) then none else lpow a b.1
theorem pwr_n1 {a0 a1 b0 b1 : Int} (h : b1 ≠ 0) : pwr (a0, a1) (b0, b1) = none := if_pos (.inl h)
theorem pwr_n2 {a0 a1 b0 b1 : Int} (h : 99 < ((b0.natAbs : Nat) : Int)) : pwr (a0, a1) (b0, b1) = none := if_pos (.inr (.inl (by show 99 < b0.natAbs; omega)))
theorem pwr_n3 {a0 a1 b0 b1 : Int} (h : a0 = 0) (h' : b0 < 1) : pwr (a0, a1) (b0, b1) = none := if_pos (.inr (.inr ⟨h, h'⟩))
theorem pwr_g1 {a0 a1 b0 b1 : Int} (h1 : b1 = 0) (h2 : ¬ 99 < ((b0.natAbs : Nat) : Int)) (h : a0 ≠ 0) : pwr (a0, a1) (b0, b1) = lpow (a0, a1) b0 := by
  refine if_neg ?_
  rintro (q | q | q)
  · exact q h1
  · exact h2 (by have : 99 < b0.natAbs := q; omega)
  · exact h q.1
theorem pwr_g2 {a0 a1 b0 b1 : Int} (h1 : b1 = 0) (h2 : ¬ 99 < ((b0.natAbs : Nat) : Int)) (h : ¬ b0 < 1) : pwr (a0, a1) (b0, b1) = lpow (a0, a1) b0 := by
  refine if_neg ?_
  rintro (q | q | q)
  · exact q h1
  · exact h2 (by have : 99 < b0.natAbs := q; omega)
  · exact h q.2
theorem c_times4 (news : Led) (a0 a1 b0 b1 : Int) (ra rb : Addr) (ta ua tb ub : Tok) (ca cb : Nat) (hra : (ra, tupO a0 a1 ta ua ca) ∈ news) (hrb : (rb, tupO b0 b1 tb ub cb) ∈ news) (ha : Ok 400 (a0, a1)) (hb : Ok 400 (b0, b1)) :
    CallR PySem.Challenge.rw_pc0121_01.row.prog (fun w => hd.heap_39 w.params) 10 (.ref 84) news [.ref ra, .ref rb] (keep (a0 * b0) (a1 + b1)) := c_times news (a0, a1) (b0, b1) ra rb ta ua tb ub ca cb hra hrb ha hb
theorem c_quot24 (news : Led) (a0 a1 b0 b1 : Int) (ra rb : Addr) (ta ua tb ub : Tok) (ca cb : Nat) (hra : (ra, tupO a0 a1 ta ua ca) ∈ news) (hrb : (rb, tupO b0 b1 tb ub cb) ∈ news) (ha : Ok 400 (a0, a1)) (hb : Ok 400 (b0, b1)) :
    CallR PySem.Challenge.rw_pc0121_01.row.prog (fun w => hd.heap_39 w.params) 8 (.ref 92) news [.ref ra, .ref rb] (quo (a0, a1) (b0, b1) 30) := c_quot2 news (a0, a1) (b0, b1) ra rb ta ua tb ub ca cb hra hrb ha hb
theorem words_P2 : True := by
  k_with_none
  k_with "my call ref" =>
    (k_here; k_dflt (first
      | (refine' use_callR (K := fun w => hd.heap_39 w.params) (c_times4 _ _ _ _ _ _ _ _ _ _ _ _ _ ?p1 ?p2 ?p3 ?p4) ?k1 ?k2 ?k3 ?k4 ?k5 ?kK ?kd ?ku ?_ ?_; ktn_open; (case p1 => (repeat (first | exact List.mem_cons_self | assumption | refine List.mem_cons_of_mem _ ?_))); (case p2 => (repeat (first | exact List.mem_cons_self | assumption | refine List.mem_cons_of_mem _ ?_))); (case p3 => (first | assumption | exact ok_one | exact PwI.ok400 (by assumption))); (case p4 => (first | assumption | exact ok_one | exact PwI.ok400 (by assumption))); (all_goals first | ((with_reducible show ∀ _ : Int × Int, _); (intro _ _ _ _ _ _ _ _ _ _ _); (try dsimp only); (try k_fold)) | (intro _ _ _ _ _ _ _ _; (try dsimp only); (try k_fold))))
      | (refine' use_callR (K := fun w => hd.heap_39 w.params) (c_quot24 _ _ _ _ _ _ _ _ _ _ _ _ _ ?p1 ?p2 ?p3 ?p4) ?k1 ?k2 ?k3 ?k4 ?k5 ?kK ?kd ?ku ?_ ?_; ktn_open; (case p1 => (repeat (first | exact List.mem_cons_self | assumption | refine List.mem_cons_of_mem _ ?_))); (case p2 => (repeat (first | exact List.mem_cons_self | assumption | refine List.mem_cons_of_mem _ ?_))); (case p3 => (first | assumption | exact ok_one | exact PwI.ok400 (by assumption))); (case p4 => (first | assumption | exact ok_one | exact PwI.ok400 (by assumption))); (all_goals first | ((with_reducible show ∀ _ : Int × Int, _); (intro _ _ _ _ _ _ _ _ _ _ _); (try dsimp only); (try k_fold)) | (intro _ _ _ _ _ _ _ _; (try dsimp only); (try k_fold))))
      | (refine' use_call (K := fun w => hd.heap_39 w.params) (c_sf _ _ _) ?k1 ?k2 ?k3 ?k4 ?k5 ?kK ?kd ?ku ?_; ktn_open; (intro _ _ _ _ _ _ _ _; (try dsimp only); (try k_fold)))))
  k_with "my pyIter ref" =>
    (k_here; k_dflt (refine' iter_pow _ "found" [] ?g ?Inv ?hI ?hh ?hr ?hn ?F ?N ?hp ?hy ?hyx ?hl ?_ ?_; (case hI => assumption); (case hh => exact rfl); (case hr => assumption); (case hn => omega); (case F => k_asm); (case N => k_asm); (case hy => exact rfl); (case hp => (repeat (first | exact List.mem_cons_self | assumption | refine List.mem_cons_of_mem _ ?_))); (case hyx => decide); (case hl => ((rename (_ ∧ _ ∧ AllLt _ _) => hA9); (have hA8 := allLt_mem hA9.2.2); assumption)); (all_goals first | ((with_reducible show ∀ _ : Nat, _); (intro _ _ _ e9 _ _ _ _ _ _ _ _ _ _ _ _ _ _ _ _ _); (try dsimp only at e9 ⊢); (try k_fold)) | ((intro _ _ _ _ _ _ _ _ _ _ _ _ _ _); (try dsimp only); (try k_fold)))))
  trivial
theorem c_power (news : Led) (a0 a1 b0 b1 : Int) (ra rb : Addr) (ta ua tb ub : Tok) (ca cb : Nat) (hra : (ra, tupO a0 a1 ta ua ca) ∈ news) (hrb : (rb, tupO b0 b1 tb ub cb) ∈ news)
    (ha : Ok 400 (a0, a1)) :
    CallR PySem.Challenge.rw_pc0121_01.row.prog (fun w => hd.heap_39 w.params) 12 (.ref 99) news [.ref ra, .ref rb] (pwr (a0, a1) (b0, b1)) := by
  w_top off
  k_fill
  have hI := pw_all ha
  dsimp only [CallR]
  intros
  rename_i hret hexc
  (have N0 := led_add (led_add (by assumption) hrb) (List.mem_cons_of_mem _ hra))
  refine wpAny_call ?_
  k_dflt cell_enter
  k_steps
  · rename_i R' U'
    exact hexc (pwr_n1 (by assumption)) _ _ _ _ (by assumption) (raised_sub R' (fun q hq => by (repeat (first | assumption | refine List.mem_cons_of_mem _ ?_)))) U'
  · rename_i R' U'
    exact hexc (pwr_n2 (by assumption)) _ _ _ _ (by assumption) (raised_sub R' (fun q hq => by (repeat (first | assumption | refine List.mem_cons_of_mem _ ?_)))) U'
  · rename_i R' U'
    exact hexc (pwr_n3 (by assumption) (by assumption)) _ _ _ _ (by assumption) (raised_sub R' (fun q hq => by (repeat (first | assumption | refine List.mem_cons_of_mem _ ?_)))) U'
  · rename_i F9 N9
    exact PowEnd.intro (by assumption) F9 N9 (by (first | exact List.mem_cons_self | assumption | (refine List.mem_cons_of_mem _ ?_; (first | exact List.mem_cons_self | assumption | (refine List.mem_cons_of_mem _ ?_; (first | exact List.mem_cons_self | assumption | (refine List.mem_cons_of_mem _ ?_; (first | exact List.mem_cons_self | assumption | (refine List.mem_cons_of_mem _ ?_; (first | exact List.mem_cons_self | assumption | (refine List.mem_cons_of_mem _ ?_; (first | exact List.mem_cons_self | assumption | (refine List.mem_cons_of_mem _ ?_; (first | exact List.mem_cons_self | assumption | (refine List.mem_cons_of_mem _ ?_; (first | exact List.mem_cons_self | assumption)))))))))))))))) (fun q hq => by (repeat (first | assumption | refine List.mem_cons_of_mem _ ?_))) (fun q hq => by (repeat (first | assumption | refine List.mem_cons_of_mem _ ?_))) (by assumption) rfl (fun z h1 h2 h3 => by simp only [if_neg h1, if_neg h2, h3, Bool.false_eq_true, if_false])
  · rename_i R' U'
    exact hexc ((pwr_g2 (by assumption) (by assumption) (by assumption)).trans (lpow_none (pw_stop (by assumption) (by assumption) (by assumption)))) _ _ _ _ (by assumption) (raised_sub R' (fun q hq => by (repeat (first | assumption | refine List.mem_cons_of_mem _ ?_)))) U'
  · rename_i kF kN Tc kX
    exact ret_P (hret _ ((pwr_g2 (by assumption) (by assumption) (by assumption)).trans (lpow_pos (by assumption) (by omega)))) rfl kF kN (.head _) (fun q hq => by (repeat (first | assumption | refine List.mem_cons_of_mem _ ?_))) (by assumption)
  · rename_i F9 N9
    exact PowEnd.intro (by assumption) F9 N9 (by (first | exact List.mem_cons_self | assumption | (refine List.mem_cons_of_mem _ ?_; (first | exact List.mem_cons_self | assumption | (refine List.mem_cons_of_mem _ ?_; (first | exact List.mem_cons_self | assumption | (refine List.mem_cons_of_mem _ ?_; (first | exact List.mem_cons_self | assumption | (refine List.mem_cons_of_mem _ ?_; (first | exact List.mem_cons_self | assumption | (refine List.mem_cons_of_mem _ ?_; (first | exact List.mem_cons_self | assumption | (refine List.mem_cons_of_mem _ ?_; (first | exact List.mem_cons_self | assumption | (refine List.mem_cons_of_mem _ ?_; (first | exact List.mem_cons_self | assumption)))))))))))))))) (fun q hq => by (repeat (first | assumption | refine List.mem_cons_of_mem _ ?_))) (fun q hq => by (repeat (first | assumption | refine List.mem_cons_of_mem _ ?_))) (by assumption) rfl (fun z h1 h2 h3 => by simp only [if_neg h1, if_neg h2, h3, Bool.false_eq_true, if_false])
  · rename_i R' U'
    exact hexc ((pwr_g1 (by assumption) (by assumption) (by assumption)).trans (lpow_none (pw_stop (by assumption) (by assumption) (by assumption)))) _ _ _ _ (by assumption) (raised_sub R' (fun q hq => by (repeat (first | assumption | refine List.mem_cons_of_mem _ ?_)))) U'
  · rename_i l9 kF kN Tc kX
    exact ret_P (hret _ ((pwr_g1 (by assumption) (by assumption) (by assumption)).trans ((lpow_neg (by assumption) (by omega)).trans (by assumption)))) rfl kF kN (.head _) (fun q hq => by (repeat (first | assumption | refine List.mem_cons_of_mem _ ?_))) (fun q hq => l9 q (by (repeat (first | assumption | refine List.mem_cons_of_mem _ ?_))))
  · rename_i R' U'
    exact hexc ((pwr_g1 (by assumption) (by assumption) (by assumption)).trans ((lpow_neg (by assumption) (by omega)).trans (by assumption))) _ _ _ _ (by assumption) (raised_sub R' (fun q hq => by (repeat (first | assumption | refine List.mem_cons_of_mem _ ?_)))) U'
  · rename_i kF kN Tc kX
    exact ret_P (hret _ ((pwr_g1 (by assumption) (by assumption) (by assumption)).trans (lpow_pos (by assumption) (by omega)))) rfl kF kN (.head _) (fun q hq => by (repeat (first | assumption | refine List.mem_cons_of_mem _ ?_))) (by assumption)
end Mine
end

end

section
namespace Mine
theorem v_q1 : quo (2, 0) (3, 0) 30 = some (666666666666666666666666666666, 30) := by decide +kernel
theorem v_q2 : quo (-7, 0) (2, 0) 0 = some (-3, 0) := by decide +kernel
theorem v_q3 : quo (1, 0) (8, 0) 2 = some (12, 2) := by decide +kernel
theorem v_q4 : quo (1, 2) (1, 4) 30 = some (100, 0) := by decide +kernel
theorem v_p1 : pwr (2, 0) (99, 0) = some (2 ^ 99, 0) := by decide +kernel
theorem v_p2 : pwr (2, 0) (-2, 0) = some (25, 2) := by decide +kernel
theorem v_p3 : pwr (-15, 1) (3, 0) = some (-3375, 3) := by decide +kernel
theorem v_p4 : pwr (0, 0) (3, 0) = some (0, 0) := by decide +kernel
theorem v_n1 : pwr (2, 0) (100, 0) = none := by decide +kernel
theorem v_n2 : pwr (2, 0) (-100, 0) = none := by decide +kernel
theorem v_n3 : pwr (0, 0) (0, 0) = none := by decide +kernel
theorem v_n4 : pwr (0, 0) (-1, 0) = none := by decide +kernel
theorem v_n5 : pwr (4, 0) (5, 1) = none := by decide +kernel
theorem v_n6 : pwr (10 ^ 60, 0) (2, 0) = none := by decide +kernel
end Mine
end

section
open PySem PySem.W PySem.Spec PySem.Calls PyProof.Rows
set_option maxRecDepth 100000
namespace Mine
def LeaveT (A₀ : Around) (base : Heap) (env : Env) (outer : List Env) (h₀ : Heap) (L : Addr) (m : Str → Option Value) (g : Heap) (R : Result → Shared → Prop) (v : Value) (s' : Shared) : Prop :=
  LeaveK h₀ L m g R v s' ∨ ∃ g' L' m' news', KtsTurn ((env :: outer).filterMap (·.frame)) g g' ∧ Fr g' L' s'.heap m' ∧ News g' L' s'.heap news' ∧
    (∀ h₀', KtsTurn (outer.filterMap (·.frame)) h₀ h₀' → Fr h₀' L s'.heap m → News h₀' L s'.heap news' → Below A₀ base outer h₀' → R (.ok (.ret v)) s')
section
variable {prog : Program} {w : World} {A₀ A : Around} {s : Shared} {base h₀ : Heap} {outer : List Env} {L : Addr} {m : Str → Option Value} {env : Env} {news : List (Addr × Obj)} {K : Frag} {p : Program} {loose : List Str} {mean : ExcName → Option Value} {mg mb : Str → Option Value}
  {R : Result → Shared → Prop} {name qual : Str} {params : Arguments} {body : List Stmt} {scope : Scope} {dV kV doc pm cdv ct oc : Value} {an od : Option Addr} {osl : Array (Option Value)} {f : Addr} {args : Args} {binds : List (Str × Value)}
theorem leaveT_ground {g g' h' : Heap} {L' : Addr} {m' : Str → Option Value} {news' : Led} (B : Below A₀ base outer h₀) (hf : env.frame = some L) (nL₀ : h₀.get? L = none) (FG : Fr h₀ L g m) (T' : KtsTurn ((env :: outer).filterMap (·.frame)) g g') (F' : Fr g' L' h' m') (N' : News g' L' h' news') :
    ∃ h₀', KtsTurn (outer.filterMap (·.frame)) h₀ h₀' ∧ Fr h₀' L h' m ∧ News h₀' L h' news' ∧ Below A₀ base outer h₀' := by
  obtain ⟨oL, es, ep, hLg, hLd, hLk, hLf⟩ := FG.ns
  have st : ∀ b o, h₀.get? b = some o → g.get? b = some o := FG.keep
  obtain ⟨sl, hs⟩ := T'.up hLg
  obtain ⟨T₁, S₁⟩ := kts_turn_at (h := h') (fs := outer.filterMap (·.frame)) (g := h₀)
    (fun b hb => by
      obtain ⟨_, o, ho', _⟩ := B.frames.mem hb
      exact ⟨o, ho'⟩)
    (fun b o e nmem => F'.keep b o (T'.other b o (st b o e) (fun q => by
      rcases fr_mem hf q with z | z
      · rw [z, nL₀] at e
        cases e
      · exact nmem z)))
    (fun b o e hm => by
      obtain ⟨sl', hs'⟩ := T'.up (st b o e)
      exact ⟨sl', F'.keep _ _ hs'⟩)
  have B₃ : Below A₀ base outer (ktsHeap h' (outer.filterMap (·.frame)) h₀) := ⟨B.stack, fun b o e => T₁.other b o (B.stays b o e) (fun hm => by
    rw [(B.frames.mem hm).1] at e
    cases e), B.frames.of_keeps fun b o e _ => by
    obtain ⟨sl', hs'⟩ := T₁.up e
    exact ⟨_, hs', rfl⟩⟩
  refine ⟨_, T₁, ⟨⟨_, es, ep, F'.keep _ _ hs, hLd, hLk, hLf⟩, S₁, by rw [T₁.size]; exact FG.above⟩, fun p hp => ⟨(N' p hp).1, fun q => ?_, ?_⟩, B₃⟩
  · have := (N' p hp).2.2; rw [q, hs] at this; cases this
  · refine T₁.none_ _ ?_
    cases q : h₀.get? p.1 with
    | none => rfl
    | some o =>
      obtain ⟨sl', hs'⟩ := T'.up (st _ _ q)
      have := (N' p hp).2.2
      rw [hs'] at this
      cases this
theorem code_defT (B : Below A₀ base outer h₀) (F : Fr h₀ L s.heap m) (X₀ : K.In h₀) (N : News h₀ L s.heap news) (T : Top p loose mean mg mb h₀) (hA : A.frames = some (env :: outer)) (hf : env.frame = some L) (hke : env.scope.kind = .function)
    (ho : K.lookup f = some ⟨oc, od, .func (fnOf name qual params body scope dV kV doc pm an cdv ct), osl⟩) (hcd : codeIn K cdv qual = true) (hroom : A.depth < recursionLimit)
    (hbind : BindsTo s (fnOf name qual params body scope dV kV doc pm an cdv ct) args binds) (hloc : ∀ y ∈ binds, scope.names.lookup y.1 = some .local)
    (h : ∀ g L' h₁, Fr h₀ L g m → Fr g L' h₁ (fun y => binds.reverse.lookup y) → News g L' h₁ news → Below A base (env :: outer) g → K.In g → Top p loose mean mg mb g →
      wpAny (model prog w) (A.deeper (envOf qual scope L' f cdv)) (execs body (envOf qual scope L' f cdv))
        (fun fl s' => LeaveT A₀ base env outer h₀ L m g R (match fl with | .ret v => v | _ => .none) s')
        (fun e s' => wpAny (model prog w) (A.deeper (envOf qual scope L' f cdv)) (leaving (envOf qual scope L' f cdv) e) (fun _ s'' => R (.error e) s'') (fun e' s'' => R (.error e') s'') s')
        { s with heap := h₁, toks := s.toks + binds.length })
    (hco : scope.isCoroutine = false) (hgen : scope.isGenerator = false) (hk : scope.kind = .function)
    (hcell : ∀ x ∈ scope.names, x.2 ≠ .cell) : codeAny (model prog w) A (.call (.ref f) args) R s := by
  have X := X₀.keeps F.keep
  obtain ⟨FG, BG, st, lv⟩ := groundX (R := R) B F N hA hf hke
  refine codeAny_call_def (fd := fnOf name qual params body scope dV kV doc pm an cdv ct) (body := body) (binds := binds) hroom (X _ _ ho) rfl (T.nolimit.keeps F.keep) (codeRec_of X hcd) rfl hbind hcell hloc (fun h₁ hns hk₁ => ?_) hco hgen hk
  refine wpAny_mono (h _ s.heap.objs.size h₁ FG ⟨hns, fun b o e => hk₁ b o (of_hideAll _ e), Nat.le_of_eq (hideAll_size _ _)⟩
    (fun p hp => ⟨hk₁ _ _ (N p hp).1, Nat.ne_of_lt (Heap.lt_size (N p hp).1), hideAll_none _ (List.mem_map_of_mem hp)⟩) BG (X₀.keeps st) (T.keeps st)) (fun fl s' hl => ?_) fun _ _ y => y
  rcases hl with hl | ⟨g', L', m', news', T', F', N', k⟩
  · exact lv _ _ hl
  · obtain ⟨h₀', T₁, F₁, N₁, B₁⟩ := leaveT_ground B hf (kts_self F) FG T' F' N'
    exact k h₀' T₁ F₁ N₁ B₁
end
/-- a call that answers o, or raises a SizeFault if o is none, whatever else lies in the ledger -/
def Called (pr : Program) (K : World → Frag) (d : Nat) (f : Value) (news : Led) (vs : List Value) (o : Option (Int × Int)) : Prop :=
  ∀ news', (∀ q ∈ news, q ∈ news') → CallR pr K d f news' vs o
abbrev CallT (pr : Program) (K : World → Frag) (d : Nat) (f : Value) (news : Led) (vs : List Value) (o : Option (Int × Int)) : Prop :=
  ∀ (w : World) (p : Program) (loose : List Str) (mean : ExcName → Option Value) (mg mb : Str → Option Value) (dp un : Nat) (gd : Option (List Code)) (cn : Str) (cs : Scope) (a : Addr) (ccd : Value) (cl : List (Str × Addr)) (outer : List Env) (A₀ : Around) (base h₀ : Heap) (L : Addr) (m : Str → Option Value) (s : Shared) (Q E : Value → Shared → Prop),
    Below A₀ base outer h₀ → Fr h₀ L s.heap m → (K w).In h₀ → News h₀ L s.heap news → Top p loose mean mg mb h₀ → cs.kind = .function → dp + d < recursionLimit → un + 10 * d < cLine → (K w).In base → Top p loose mean mg mb base →
    (∀ q, o = some q → RetP q h₀ L m news s Q) →
    (o = none → ∀ (h₀' h' : Heap) (tk' : Nat), KtsTurn (outer.filterMap (·.frame)) h₀ h₀' → Fr h₀' L h' m → News h₀' L h' news → Below A₀ base outer h₀' → (K w).In h₀' → Top p loose mean mg mb h₀' → Q .none { s with heap := h', toks := tk' }) →
      wpAny (model pr w) (ktrTop dp un gd cn cs L a ccd cl outer) (call f vs) Q E s
def FnIs (K : World → Frag) (fa : Addr) (news : Led) : Prop := ∀ (w : World) (g : Heap) (L : Addr) (h : Heap) (m : Str → Option Value), (K w).In g → Fr g L h m → News g L h news → FnAt fa h
theorem fnAt_is {K : World → Frag} {fa : Addr} {news : Led} {w : World} {g : Heap} {L : Addr} {h : Heap} {m : Str → Option Value} (H : FnIs K fa news) (X : (K w).In g) (F : Fr g L h m) (N : News g L h news) : FnAt fa h := H w g L h m X F N
end Mine
end

section
open PySem PySem.W PySem.Spec PySem.Calls PyProof.Rows
set_option maxRecDepth 100000
set_option maxHeartbeats 8000000
namespace Mine
theorem words_T1 : True := by
  k_with_none
  trivial
theorem use_called {pr : Program} {K : World → Frag} {d : Nat} {f : Value} {news news' : Led} {vs : List Value} {o : Option (Int × Int)} {w : World} {p : Program} {loose : List Str} {mean : ExcName → Option Value} {mg mb : Str → Option Value} {dp un : Nat} {gd : Option (List Code)} {cn : Str} {cs : Scope} {a : Addr} {ccd : Value} {cl : List (Str × Addr)} {outer : List Env} {A₀ : Around} {base h₀ : Heap} {L : Addr} {m : Str → Option Value} {s : Shared} {Q E : Value → Shared → Prop}
    (C : Called pr K d f news' vs o) (hs : ∀ q ∈ news', q ∈ news) (B : Below A₀ base outer h₀) (F : Fr h₀ L s.heap m) (X : (K w).In h₀) (N : News h₀ L s.heap news) (T : Top p loose mean mg mb h₀) (hk : cs.kind = .function) (hd : dp + d < recursionLimit) (hu : un + 10 * d < cLine)
    (hR : ∀ q, o = some q → RetP q h₀ L m news s Q)
    (hE : o = none → ∀ (e : Addr) (g h' : Heap) (tk' : Nat), Fr h₀ L g m → RaisedSN base g (envX cn cs L a ccd cl :: outer) e (.ref 53) news h' → g.UpToSlots h' → E (.ref e) { s with heap := h', toks := tk' }) :
    wpAny (model pr w) (ktrTop dp un gd cn cs L a ccd cl outer) (call f vs) Q E s := C news hs _ _ _ _ _ _ _ _ _ _ _ _ _ _ _ _ _ _ _ _ _ _ _ B F X N T hk hd hu hR hE
local macro_rules | `(tactic| cell_enter) => `(tactic| (refine' code_defT ?k1 ?k2 ?k3 ?k4 ?k5 ?kA ?kF ?kK ?k6 ?k7 ?k8 ?k9 ?kB ?_ ?c2 ?c3 ?c4 ?c5; (case kA => exact rfl); (case kF => exact rfl); (case kK => assumption); (case k1 => k_asm); (case k2 => k_asm); (case k3 => k_asm); (case k4 => k_asm); (case k5 => k_asm); (case k6 => k_is); (case k7 => k_is); (case k8 => ktr_room); (case k9 => first | exact BindsTo.of_eq rfl | exact binds_K (by k_in) rfl (by k_is) rfl rfl rfl); (case c5 => decide); (case kB => exact locs rfl); (case c2 => exact rfl); (case c3 => exact rfl); (case c4 => exact rfl); k_whole; intro g' L' h' FG' F' N' B' X' T'; (try dsimp only); (try k_lift B'); (try k_fold)))
local macro_rules | `(tactic| walk_at "eval Call") => `(tactic| (k_here; k_dflt (refine Call_ ?_)))
local macro_rules | `(tactic| walk_at "leaving ref") => `(tactic| (k_here; k_dflt (first
  | (refine' leave_sf ?K ?F ?N ?l ?_; (case N => assumption); (case l => assumption); (case K => assumption); (case F => assumption); k_whole; (intro hR' R' U'; (try dsimp only at R' U' ⊢)))
  | (refine' leave_on ?z ?K ?F ?R ?U ?_; (case z => rfl); (case R => assumption); (case K => assumption); (case F => assumption); (case U => assumption); k_whole; (intro hR' R' U'; (try dsimp only at R' U' ⊢))))))

local macro_rules | `(tactic| walk_at "exec Try") => `(tactic| (k_here; k_dflt (refine wpAny_Try_except ?_)))
local macro_rules | `(tactic| walk_at "call ref") => `(tactic| (k_here; k_dflt (refine' use_called ?C ?hs ?k1 ?k2 ?k3 ?k4 ?k5 ?kK ?kd ?ku ?_ ?_; (case C => assumption); ktn_open; (case hs => exact fun _ h => h); (all_goals first | ((with_reducible show ∀ _ : Int × Int, _); (intro q9 hq9 r9 t9 u9 c9 h9 tk9 F9 N9 l9); (try dsimp only); (try k_fold)) | (intro hq9 e9 g9 h9 tk9 FG9 R9 U9; (try dsimp only); (try k_fold))))))
local macro_rules | `(tactic| walk_at "noteFrame ref") => `(tactic| (k_here; k_dflt (refine' caught_sf (KF := hd.heap_39 _) ?R ?F ?K ?U ?XB ?TB ?ex ?q ?_; (case R => assumption); (case F => assumption); (case K => assumption); (case U => assumption); (case XB => assumption); (case TB => assumption); (case ex => k_is); (case q => kts_isx); k_whole; (intro h9 g9 T9 F9 N9 B9 X9 T9'; (try dsimp only); (try k_fold)))))
local macro_rules | `(tactic| walk_at "FnAt") => `(tactic| (k_dflt (refine' fnAt_is (K := fun w => hd.heap_39 w.params) ?H ?X ?F ?N; (case H => assumption); (case F => assumption); (case N => assumption); (case X => assumption))))
local macro_rules | `(tactic| walk_at "callWith ref") => `(tactic| (k_here; k_dflt (refine' callWith_F ?k1 ?_; (case k1 => (refine' fnAt_is (K := fun w => hd.heap_39 w.params) ?H ?X ?F ?N; (case H => assumption); (case F => assumption); (case N => assumption); (case X => assumption))); k_whole)))
theorem c_told (d : Nat) (news : Led) (fa ra rb : Addr) (o : Option (Int × Int)) (hd9 : d ≤ 20) (hF : FnIs (fun w => hd.heap_39 w.params) fa news) (hC : Called PySem.Challenge.rw_pc0121_01.row.prog (fun w => hd.heap_39 w.params) d (.ref fa) news [.ref ra, .ref rb] o) :
    CallT PySem.Challenge.rw_pc0121_01.row.prog (fun w => hd.heap_39 w.params) (d + 2) (.ref 134) news [.ref fa, .ref ra, .ref rb] o := by
  w_top off
  k_fill
  dsimp only [CallT]
  intros
  rename_i hret hexc
  refine wpAny_call ?_
  k_dflt cell_enter
  k_steps
  · exact Or.inl ⟨_, _, _, (by assumption), (by assumption), fun kF kN => hret _ (by assumption) _ _ _ _ _ _ kF kN (by assumption)⟩
  · exact Or.inr ⟨_, _, _, _, (by assumption), (by assumption), (by assumption), fun h₀' T1 kF kN kB => hexc (by assumption) _ _ _ T1 kF kN kB (Frag.In.keeps (by assumption) kB.stays) (Top.keeps (by assumption) kB.stays)⟩
end Mine
end

section
open PySem PySem.W PySem.Spec PySem.Calls PyProof.Rows
set_option maxRecDepth 100000
set_option maxHeartbeats 8000000
namespace Mine
theorem words_L0 : True := by
  k_with_none
  trivial
abbrev RetD : Ret := fun h₀ L m news s Q => ∀ (u c : Int), Mag 80 u → -5 ≤ c → c ≤ 18 → RetP (u, c) h₀ L m news s Q
abbrev CallD (pr : Program) (K : World → Frag) (d : Nat) (l : Addr) (f : Value) (news : Led) (vs : List Value) (R : Ret) : Prop :=
  ∀ (w : World) (p : Program) (loose : List Str) (mean : ExcName → Option Value) (mg mb : Str → Option Value) (dp un : Nat) (gd : Option (List Code)) (cn : Str) (cs : Scope) (a : Addr) (ccd : Value) (cl : List (Str × Addr)) (outer : List Env) (A₀ : Around) (base h₀ : Heap) (L : Addr) (m : Str → Option Value) (s : Shared) (xs : List Int) (ys : List Value) (Q E : Value → Shared → Prop),
    Below A₀ base outer h₀ → Fr h₀ L s.heap m → (K w).In h₀ → News h₀ L s.heap news → Top p loose mean mg mb h₀ → cs.kind = .function → dp + d < recursionLimit → un + 10 * d < cLine → base.IsList l ys.toArray → IntsAre ys xs → ¬ ((63 : Nat) : Int) < ((xs.length : Nat) : Int) → R h₀ L m news s Q →
      wpAny (model pr w) (ktrTop dp un gd cn cs L a ccd cl outer) (call f vs) Q E s
local macro_rules | `(tactic| walk_at "eval Call") => `(tactic| (k_here; k_dflt (refine Call_ ?_)))

theorem mag_units (x y : Int) : Mag 80 (x.fmod (10 ^ (1 + y.fmod 75).toNat)) := by
  have h0 : 0 ≤ y.fmod 75 := Int.fmod_nonneg_of_pos _ (by decide)
  have h1 : y.fmod 75 < 75 := Int.fmod_lt_of_pos _ (by decide)
  have hp : (0 : Int) < 10 ^ (1 + y.fmod 75).toNat := Int.pow_pos (by decide)
  have a0 := Int.fmod_nonneg_of_pos x hp
  have a1 := Int.fmod_lt_of_pos x hp
  have hm : Mag 80 ((10 : Int) ^ (1 + y.fmod 75).toNat) := mag_pow (by omega)
  exact hm.le (by omega)
theorem place_lo (z : Int) : -5 ≤ z.fmod 24 - 5 := by have := Int.fmod_nonneg_of_pos z (show (0 : Int) < 24 by decide); omega
theorem place_hi (z : Int) : z.fmod 24 - 5 ≤ 18 := by have := Int.fmod_lt_of_pos z (show (0 : Int) < 24 by decide); omega
theorem c_ldec (news : Led) (l : Addr) (k : Int) (tk : Tok) (hk0 : 0 ≤ k) (hk1 : k ≤ 2) :
    CallD PySem.Challenge.rw_pc0121_01.row.prog (fun w => hd.heap_39 w.params) 2 l (.ref 113) news [.ref l, .int k tk] RetD := by
  w_top off
  k_fill
  dsimp only [CallD, RetD]
  intros
  rename_i hret
  refine wpAny_call ?_
  k_dflt cell_enter
  k_steps
  all_goals (rename_i l1 kF kN Tc kX; first | exact hret _ _ (mag_units _ _) (place_lo _) (place_hi _) _ _ _ _ _ _ kF kN l1 | exact hret _ _ (mag_units _ _).neg (place_lo _) (place_hi _) _ _ _ _ _ _ kF kN l1)
end Mine
end

section
open PySem PySem.W PySem.Spec PySem.Calls PyProof.Rows
namespace Mine
def LawEnd (base : Heap) (L : Addr) (s : Shared) (f : Flow) (s' : Shared) : Prop :=
  ∃ h' tk' m' news ps, f = .ret (.bool true) ∧ s' = { s with heap := h', toks := tk' } ∧ Fr base L h' m' ∧ News base L h' news ∧ (155, tabObj ps) ∈ news
theorem LawEnd.intro {base : Heap} {L : Addr} {s : Shared} {h' : Heap} {tk' : Nat} {m' : Str → Option Value} {news : List (Addr × Obj)} {ps : Array Value} (F : Fr base L h' m') (N : News base L h' news) (hm : (155, tabObj ps) ∈ news) :
    LawEnd base L s (.ret (.bool true)) { s with heap := h', toks := tk' } := ⟨h', tk', m', news, ps, rfl, rfl, F, N, hm⟩
theorem law_split {prog : Program} {w : World} {A : Around} {t : Sem Flow} {Q : Flow → Shared → Prop} {E : Value → Shared → Prop} {s : Shared} {base h : Heap} {L : Addr} {m : Str → Option Value} (_F : Fr base L h m)
    (hw : wpAny (model prog w) A t (LawEnd base L s) (fun _ _ => False) s)
    (post : ∀ h' tk' m' news ps, Fr base L h' m' → News base L h' news → (155, tabObj ps) ∈ news → Q (.ret (.bool true)) { s with heap := h', toks := tk' }) : wpAny (model prog w) A t Q E s := by
  refine wpAny_mono hw (fun f s' => ?_) fun _ _ h => h.elim
  rintro ⟨h', tk', m', news, ps, rfl, rfl, F, N, hm⟩
  exact post h' tk' m' news ps F N hm
end Mine
end

section
open PySem PySem.W PySem.Spec PySem.Calls PyProof.Rows
namespace Mine
theorem compEnd_new {h₀ : Heap} {L I C D r : Addr} {m : Str → Option Value} {s₁ : Shared} {oI oC oD o : Obj} {S : List (Addr × Obj) → Prop} {rest : Value → List (Addr × Obj) → Prop} {h' : Heap} {tk : Nat} {nw : Led}
    (F : Fr h₀ L h' m) (N : News h₀ L h' ((r, o) :: (I, oI) :: (C, oC) :: (D, oD) :: nw)) (l : ∀ q ∈ (I, oI) :: (C, oC) :: (D, oD) :: nw, q.1 < r) (off : LCg.Off3 I C D nw) (hS : S ((r, o) :: nw)) (k : rest (.ref r) ((r, o) :: nw)) :
    LCg.CompEnd h₀ L m s₁ I oI C oC D oD S rest (.ref r) { s₁ with heap := h', toks := tk } := by
  refine ⟨h', tk, (r, o) :: nw, rfl, F, fun p hp => N p ?_, ⟨⟨Ne.symm (Nat.ne_of_lt (l _ (.head _))), Ne.symm (Nat.ne_of_lt (l _ (.tail _ (.head _)))), Ne.symm (Nat.ne_of_lt (l _ (.tail _ (.tail _ (.head _)))))⟩, off⟩, hS, k⟩
  rcases List.mem_cons.mp hp with rfl | hp
  · exact .tail _ (.head _)
  rcases List.mem_cons.mp hp with rfl | hp
  · exact .tail _ (.tail _ (.head _))
  rcases List.mem_cons.mp hp with rfl | hp
  · exact .tail _ (.tail _ (.tail _ (.head _)))
  rcases List.mem_cons.mp hp with rfl | hp
  · exact .head _
  · exact .tail _ (.tail _ (.tail _ (.tail _ hp)))
end Mine
end

section
open PySem PySem.W PySem.Spec PySem.Calls PyProof.Rows
namespace Mine
section
variable {M : Model} {A : Around} {env : Env} {Q : Flow → Shared → Prop} {E : Value → Shared → Prop}
theorem execs_split_all (n : Nat) : ∀ (l : List Stmt) (s : Shared) Γ p, Γ.In A → Sem.wp M Γ (execs (l.take n) env) (fun f _ s' => match f with | .next => wpAny M A (execs (l.drop n) env) Q E s' | f => Q f s') (fun e _ s' => E e s') p s →
    Sem.wp M Γ (execs l env) (fun f _ s' => Q f s') (fun e _ s' => E e s') p s := by
  induction n with
  | zero => exact fun l s Γ p hΓ h => h Γ p hΓ
  | succ n ih =>
    intro l s Γ p hΓ h
    cases l with
    | nil => exact h Γ p hΓ
    | cons st r =>
      rw [List.take_succ_cons, execs_cons, Sem.wp_bind'] at h
      rw [execs_cons, Sem.wp_bind']
      refine Sem.wp_mono M Γ _ (fun f p' s' h' => ?_) (fun _ _ _ h' => h') _ _ h
      cases f <;> first | exact ih _ _ _ _ hΓ h' | exact h'
theorem execs_split (n : Nat) {l : List Stmt} {s : Shared} (Mid : Shared → Prop) (h : wpAny M A (execs (l.take n) env) (fun f s' => f = .next ∧ Mid s') E s)
    (k : ∀ s', Mid s' → wpAny M A (execs (l.drop n) env) Q E s') : wpAny M A (execs l env) Q E s := fun Γ p hΓ => by
  refine execs_split_all n l s Γ p hΓ (Sem.wp_mono M Γ _ (fun f p' s' h' => ?_) (fun _ _ _ h' => h') _ _ (h Γ p hΓ))
  obtain ⟨rfl, hm⟩ := h'
  exact k _ hm
end
theorem dec_ok {x y : Int} (h : Mag 80 x) (h0 : -5 ≤ y) (h1 : y ≤ 18) : Ok 100 (dec x y) := by
  by_cases hy : y < 0
  · unfold dec; rw [if_pos hy]
    exact ⟨(h.mul (mag_pow (k := (-y).toNat) (n := 20) (by omega))), Int.le_refl 0, show (0 : Int) ≤ 100 by decide⟩
  · obtain ⟨a, b, c, _⟩ := dec_bounds (u := x) (show 0 ≤ y by omega)
    exact ⟨(h.le a).mono (by decide), b, by omega⟩
theorem Ok.mono {n k : Nat} {a : Int × Int} (h : Ok n a) (hk : n ≤ k) : Ok k a := ⟨h.mag.mono hk, h.lo, h.hi⟩
theorem fr_named3 {base h : Heap} {L : Addr} {m : Str → Option Value} {v1 v2 v3 : Value} (F : Fr base L h m) (h1 : m (Str.ofString "one") = some v1) (h2 : m (Str.ofString "two") = some v2) (h3 : m (Str.ofString "three") = some v3) :
    Fr base L h (fun y => if y = Str.ofString "three" then some v3 else if y = Str.ofString "two" then some v2 else if y = Str.ofString "one" then some v1 else m y) := by
  have e : m = (fun y => if y = Str.ofString "three" then some v3 else if y = Str.ofString "two" then some v2 else if y = Str.ofString "one" then some v1 else m y) := by
    funext y
    by_cases q3 : y = Str.ofString "three"
    · rw [if_pos q3, q3, h3]
    rw [if_neg q3]
    by_cases q2 : y = Str.ofString "two"
    · rw [if_pos q2, q2, h2]
    rw [if_neg q2]
    by_cases q1 : y = Str.ofString "one"
    · rw [if_pos q1, q1, h1]
    rw [if_neg q1]
  rw [← e]; exact F
theorem lt_of_led {all : Led} {r : Addr} {q : Addr × Obj} (l : ∀ q ∈ all, q.1 < r) (hq : q ∈ all) : q.1 < r := l q hq
/-- the three decimals stand under their names -/
def Mid1 (base : Heap) (L : Addr) (s : Shared) (tail : Led) (s' : Shared) : Prop :=
  ∃ (h : Heap) (tk : Nat) (r1 r2 r3 : Addr) (a0 a1 b0 b1 d0 d1 : Int) (ta ua tb ub tc uc : Tok) (ca cb cc : Nat) (m : Str → Option Value), s' = { s with heap := h, toks := tk } ∧ Ok 100 (a0, a1) ∧ Ok 100 (b0, b1) ∧ Ok 100 (d0, d1) ∧
    (∀ q ∈ tail, q.1 < r1 ∧ q.1 < r2 ∧ q.1 < r3) ∧ Fr base L h m ∧ m (Str.ofString "one") = some (.ref r1) ∧ m (Str.ofString "two") = some (.ref r2) ∧ m (Str.ofString "three") = some (.ref r3) ∧
    News base L h ((r1, tupO a0 a1 ta ua ca) :: (r2, tupO b0 b1 tb ub cb) :: (r3, tupO d0 d1 tc uc cc) :: tail)
theorem Mid1.intro {base : Heap} {L : Addr} {s : Shared} {tail : Led} {h : Heap} {tk : Nat} {r1 r2 r3 : Addr} {a0 a1 b0 b1 d0 d1 : Int} {ta ua tb ub tc uc : Tok} {ca cb cc : Nat} {m : Str → Option Value} {all : Led}
    (F : Fr base L h m) (m1 : m (Str.ofString "one") = some (.ref r1)) (m2 : m (Str.ofString "two") = some (.ref r2)) (m3 : m (Str.ofString "three") = some (.ref r3))
    (N : News base L h all) (q1 : (r1, tupO a0 a1 ta ua ca) ∈ all) (q2 : (r2, tupO b0 b1 tb ub cb) ∈ all) (q3 : (r3, tupO d0 d1 tc uc cc) ∈ all) (sub : ∀ q ∈ tail, q ∈ all)
    (h1 : Ok 100 (a0, a1)) (h2 : Ok 100 (b0, b1)) (h3 : Ok 100 (d0, d1)) (l1 : ∀ q ∈ tail, q.1 < r1) (l2 : ∀ q ∈ tail, q.1 < r2) (l3 : ∀ q ∈ tail, q.1 < r3) : Mid1 base L s tail { s with heap := h, toks := tk } := by
  refine ⟨h, tk, r1, r2, r3, a0, a1, b0, b1, d0, d1, ta, ua, tb, ub, tc, uc, ca, cb, cc, m, rfl, h1, h2, h3, fun q hq => ⟨l1 q hq, l2 q hq, l3 q hq⟩, F, m1, m2, m3, fun q hq => ?_⟩
  rcases List.mem_cons.mp hq with rfl | hq
  · exact N _ q1
  rcases List.mem_cons.mp hq with rfl | hq
  · exact N _ q2
  rcases List.mem_cons.mp hq with rfl | hq
  · exact N _ q3
  · exact N _ (sub q hq)
end Mine
end

section
namespace Mine
def Hold (P : Prop) : Prop := P
theorem hold_out {P : Prop} (h : Hold P) : P := h
end Mine
end

section
open PySem PySem.W PySem.Spec PySem.Calls PyProof.Rows
namespace Mine
structure Anchor (r : Addr) : Prop where
  lt : @LT.lt Nat _ 155 r
def IsAns (v : Value) (o : Option (Int × Int)) (r : Addr) (ob : Obj) : Prop := (o = none ∧ v = .none) ∨ ∃ (x y : Int) (t u : Tok) (c : Nat), o = some (x, y) ∧ v = .ref r ∧ ob = tupO x y t u c
abbrev RetA (o : Option (Int × Int)) : Ret := fun h₀ L m news s Q => ∀ (v : Value) (r : Addr) (ob : Obj) (h' : Heap) (tk' : Nat), IsAns v o r ob → @LT.lt Nat _ 155 r → Fr h₀ L h' m → News h₀ L h' ((r, ob) :: news) → Q v { s with heap := h', toks := tk' }
theorem retA_O {o : Option (Int × Int)} {h₀ : Heap} {L : Addr} {m : Str → Option Value} {news : Led} {s : Shared} {Q : Value → Shared → Prop} {r0 : Addr} {ob0 ot : Obj} (hq : (r0, ob0) ∈ news) (h0 : Anchor r0) (ht : (155, ot) ∈ news) (h : RetA o h₀ L m news s Q) : RetO o h₀ L m news s Q := by
  refine ⟨fun e h' tk' F N => h _ r0 ob0 _ _ (.inl ⟨e, rfl⟩) h0.lt F (led_add N hq), fun p e r t u c h' tk' F N l => h _ r (tupO p.1 p.2 t u c) _ _ (.inr ⟨p.1, p.2, t, u, c, e, rfl, rfl⟩) (l _ ht) F N⟩
section
variable {prog : Program} {w : World} {A : Around} {E : Value → Shared → Prop} {s : Shared} {Q : Value → Shared → Prop} {h₀ : Heap} {L : Addr} {news : Led} {v v' : Value} {o : Option (Int × Int)} {r r' : Addr} {ob ob' : Obj}
theorem cmp_same (H : IsAns v o r ob) (H' : IsAns v' o r' ob') (N : News h₀ L s.heap ((r', ob') :: (r, ob) :: news)) (hu : A.units + 64 < cLine) (h : News h₀ L s.heap news → Q (.bool false) s) :
    wpAny (model prog w) A (compareOp .NotEq v v') Q E s := by
  have h := h fun q hq => N q (.tail _ (.tail _ hq))
  rcases H with ⟨rfl, rfl⟩ | ⟨x, y, t, u, c, rfl, rfl, rfl⟩
  · rcases H' with ⟨_, rfl⟩ | ⟨_, _, _, _, _, e, _⟩
    · exact EqNone.ne_none_none h
    · cases e
  · rcases H' with ⟨e, _⟩ | ⟨x', y', t', u', c', e, rfl, rfl⟩
    · cases e
    · cases e
      refine ne_dataH (da := .tuple [.int x, .int y]) (db := .tuple [.int x, .int y]) (reads_tuple_at (News.get N (.tail _ (.head _))) rfl rfl (by repeat constructor)) (reads_tuple_at (News.get N (.head _)) rfl rfl (by repeat constructor)) rfl rfl hu ?_
      simpa [PyData.eqv, PyData.eqvAll] using h
end
theorem fr_turn0 {base g h : Heap} {L : Addr} {m : Str → Option Value} (T : KtsTurn [] base g) (F : Fr g L h m) : Fr base L h m :=
  ⟨F.ns, fun b o e => F.keep b o (T.other b o e (by simp)), by have := F.above; rw [T.size] at this; exact this⟩
theorem news_turn0 {base g h : Heap} {L : Addr} {news : Led} (T : KtsTurn [] base g) (N : News g L h news) : News base L h news := fun p hp =>
  ⟨(N p hp).1, (N p hp).2.1, by
    cases q : base.get? p.1 with
    | none => rfl
    | some o => have := T.other _ _ q (by simp); rw [(N p hp).2.2] at this; cases this⟩
theorem told_law {pr : Program} {K : World → Frag} {d : Nat} {f : Value} {news : Led} {vs : List Value} {o : Option (Int × Int)} {w : World} {p : Program} {loose : List Str} {mean : ExcName → Option Value} {mg mb : Str → Option Value} {dp un : Nat} {gd : Option (List Code)} {cn : Str} {cs : Scope} {a : Addr} {ccd : Value} {cl : List (Str × Addr)} {A₀ : Around} {base : Heap} {L : Addr} {m : Str → Option Value} {s : Shared} {Q E : Value → Shared → Prop}
    (C : CallT pr K d f news vs o) (B : Below A₀ base [] base) (F : Fr base L s.heap m) (X : (K w).In base) (N : News base L s.heap news) (T : Top p loose mean mg mb base) (hk : cs.kind = .function) (hd : dp + d < recursionLimit) (hu : un + 10 * d < cLine) {r0 : Addr} {ob0 ot : Obj} (hq : (r0, ob0) ∈ news) (h0 : Anchor r0) (ht : (155, ot) ∈ news) (hR : RetA o base L m news s Q) :
    wpAny (model pr w) (ktrTop dp un gd cn cs L a ccd cl []) (call f vs) Q E s :=
  C _ _ _ _ _ _ _ _ _ _ _ _ _ _ _ _ _ _ _ _ _ _ _ B F X N T hk hd hu X T (fun q e => (retA_O hq h0 ht hR).2 q e) fun e _ h' tk' Tn F' N' _ _ _ => (retA_O hq h0 ht hR).1 e h' tk' (fr_turn0 Tn F') (news_turn0 Tn N')
theorem fn_quot0 : PySem.Challenge.rw_pc0121_01.row.prog = PySem.Challenge.rw_pc0121_01.row.prog ∧ ∀ (w : World) (g : Heap) (L : Addr) (h : Heap) (m : Str → Option Value), (hd.heap_39 w.params).In g → Fr g L h m → FnAt 92 h := by
  w_top off
  k_fill
  refine ⟨rfl, ?_⟩
  intro w g L h m X F
  exact ⟨_, _, _, _, F.keep _ _ (X _ _ (by k_dflt k_is))⟩
theorem fn_quot (news : Led) : FnIs (fun w => hd.heap_39 w.params) 92 news := fun w g L h m X F _ => fn_quot0.2 w g L h m X F
theorem fn_pow0 : PySem.Challenge.rw_pc0121_01.row.prog = PySem.Challenge.rw_pc0121_01.row.prog ∧ ∀ (w : World) (g : Heap) (L : Addr) (h : Heap) (m : Str → Option Value), (hd.heap_39 w.params).In g → Fr g L h m → FnAt 99 h := by
  w_top off
  k_fill
  refine ⟨rfl, ?_⟩
  intro w g L h m X F
  exact ⟨_, _, _, _, F.keep _ _ (X _ _ (by k_dflt k_is))⟩
theorem fn_pow (news : Led) : FnIs (fun w => hd.heap_39 w.params) 99 news := fun w g L h m X F _ => fn_pow0.2 w g L h m X F
theorem told_quot (news : Led) (a0 a1 b0 b1 : Int) (ra rb : Addr) (ta ua tb ub : Tok) (ca cb : Nat) (hra : (ra, tupO a0 a1 ta ua ca) ∈ news) (hrb : (rb, tupO b0 b1 tb ub cb) ∈ news) (ha : Ok 400 (a0, a1)) (hb : Ok 400 (b0, b1)) :
    CallT PySem.Challenge.rw_pc0121_01.row.prog (fun w => hd.heap_39 w.params) 10 (.ref 134) news [.ref 92, .ref ra, .ref rb] (quo (a0, a1) (b0, b1) 30) :=
  c_told 8 news 92 ra rb _ (by decide) (fn_quot news) fun news' hs => c_quot24 news' a0 a1 b0 b1 ra rb ta ua tb ub ca cb (hs _ hra) (hs _ hrb) ha hb
theorem told_pow (news : Led) (a0 a1 b0 b1 : Int) (ra rb : Addr) (ta ua tb ub : Tok) (ca cb : Nat) (hra : (ra, tupO a0 a1 ta ua ca) ∈ news) (hrb : (rb, tupO b0 b1 tb ub cb) ∈ news) (ha : Ok 400 (a0, a1)) :
    CallT PySem.Challenge.rw_pc0121_01.row.prog (fun w => hd.heap_39 w.params) 14 (.ref 134) news [.ref 99, .ref ra, .ref rb] (pwr (a0, a1) (b0, b1)) :=
  c_told 12 news 99 ra rb _ (by decide) (fn_pow news) fun news' hs => c_power news' a0 a1 b0 b1 ra rb ta ua tb ub ca cb (hs _ hra) (hs _ hrb) ha
theorem ok_zero : Ok 400 (0, 0) := ⟨by unfold Mag; decide +kernel, by decide, by decide⟩
end Mine
end

section
open PySem PySem.W PySem.Spec PySem.Calls PyProof.Rows
namespace Mine
theorem c_quot34 (news : Led) (a0 a1 b0 b1 : Int) (many : Int) (ra rb : Addr) (ta ua tb ub tm : Tok) (ca cb : Nat) (hra : (ra, tupO a0 a1 ta ua ca) ∈ news) (hrb : (rb, tupO b0 b1 tb ub cb) ∈ news)
    (ha : Ok 400 (a0, a1)) (hb : Ok 400 (b0, b1)) (hm0 : 0 ≤ many) (hm1 : many ≤ 100) :
    CallR PySem.Challenge.rw_pc0121_01.row.prog (fun w => hd.heap_39 w.params) 8 (.ref 92) news [.ref ra, .ref rb, .int many tm] (quo (a0, a1) (b0, b1) many) := c_quot3 news (a0, a1) (b0, b1) many ra rb ta ua tb ub tm ca cb hra hrb ha hb hm0 hm1
theorem called_led {pr : Program} {K : World → Frag} {d : Nat} {f : Value} {news : Led} {vs : List Value} {o : Option (Int × Int)}
    (h : ∀ (news' : Led) (w : World) (p : Program) (loose : List Str) (mean : ExcName → Option Value) (mg mb : Str → Option Value) (dp un : Nat) (gd : Option (List Code)) (cn : Str) (cs : Scope) (a : Addr) (ccd : Value) (cl : List (Str × Addr)) (outer : List Env) (A₀ : Around) (base h₀ : Heap) (L : Addr) (m : Str → Option Value) (s : Shared) (Q E : Value → Shared → Prop),
      Below A₀ base outer h₀ → Fr h₀ L s.heap m → (K w).In h₀ → News h₀ L s.heap (news ++ news') → Top p loose mean mg mb h₀ → cs.kind = .function → dp + d < recursionLimit → un + 10 * d < cLine →
      (∀ q, o = some q → RetP q h₀ L m news' s Q) →
      (o = none → ∀ (e : Addr) (g h' : Heap) (tk' : Nat), Fr h₀ L g m → RaisedSN base g (envX cn cs L a ccd cl :: outer) e (.ref 53) news' h' → g.UpToSlots h' → E (.ref e) { s with heap := h', toks := tk' }) →
      wpAny (model pr w) (ktrTop dp un gd cn cs L a ccd cl outer) (call f vs) Q E s) : Called pr K d f news vs o := by
  intro news' hs w p loose mean mg mb dp un gd cn cs a ccd cl outer A₀ base h₀ L m s Q E B F X N T hk hd hu hR hE
  refine h news' w p loose mean mg mb dp un gd cn cs a ccd cl outer A₀ base h₀ L m s Q E B F X (fun q hq => ?_) T hk hd hu hR hE
  rcases List.mem_append.mp hq with hq | hq
  · exact N _ (hs _ hq)
  · exact N _ hq
theorem told_lam (news : Led) (f ra rb cm : Addr) (a0 a1 b0 b1 many : Int) (ta ua tb ub tm : Tok) (ca cb : Nat) (oc : Obj) (hra : (ra, tupO a0 a1 ta ua ca) ∈ news) (hrb : (rb, tupO b0 b1 tb ub cb) ∈ news)
    (_hc : oc.data = .cell (some (.int many tm))) (_hm : (cm, oc) ∈ news) (hF : FnIs (fun w => hd.heap_39 w.params) f news)
    (hC : Called PySem.Challenge.rw_pc0121_01.row.prog (fun w => hd.heap_39 w.params) 10 (.ref f) news [.ref ra, .ref rb] (quo (a0, a1) (b0, b1) many)) :
    CallT PySem.Challenge.rw_pc0121_01.row.prog (fun w => hd.heap_39 w.params) 12 (.ref 134) news [.ref f, .ref ra, .ref rb] (quo (a0, a1) (b0, b1) many) := c_told 10 news f ra rb _ (by decide) hF hC
end Mine
end

section
open PySem PySem.W PySem.Spec PySem.Calls PyProof.Rows
namespace Mine
def Mid2 (base : Heap) (L : Addr) (s s' : Shared) : Prop := ∃ ps, Mid1 base L s [(155, tabObj ps)] s'
theorem steps_small (x : Int) : (x.fmod 29 - 14).natAbs ≤ 1000 := by
  have h0 := Int.fmod_nonneg_of_pos x (show (0 : Int) < 29 by decide)
  have h1 := Int.fmod_lt_of_pos x (show (0 : Int) < 29 by decide)
  omega
theorem steps_99 (x : Int) : ¬ 99 < (((x.fmod 29 - 14).natAbs : Nat) : Int) := by
  have h0 := Int.fmod_nonneg_of_pos x (show (0 : Int) < 29 by decide)
  have h1 := Int.fmod_lt_of_pos x (show (0 : Int) < 29 by decide)
  omega
theorem isAns_none {v : Value} {o : Option (Int × Int)} {r : Addr} {ob : Obj} (H : IsAns v o r ob) (h : o = none) : v = .none := by
  rcases H with ⟨_, e⟩ | ⟨_, _, _, _, _, e, _⟩
  · exact e
  · rw [h] at e; cases e
section
variable {prog : Program} {w : World} {A : Around} {E : Value → Shared → Prop} {s : Shared} {Q : Value → Shared → Prop} {h₀ : Heap} {L : Addr} {news : Led} {v v' : Value} {o o' : Option (Int × Int)} {r r' : Addr} {ob ob' : Obj}
theorem cmp_any (H : IsAns v o r ob) (H' : IsAns v' o' r' ob') (N : News h₀ L s.heap news) (hm : (r, ob) ∈ news) (hm' : (r', ob') ∈ news) (ho : o = o') (hu : A.units + 64 < cLine) (h : Q (.bool false) s) :
    wpAny (model prog w) A (compareOp .NotEq v v') Q E s := by
  subst ho
  refine cmp_same (news := []) H H' (h₀ := h₀) (L := L) (fun q hq => ?_) hu fun _ => h
  rcases List.mem_cons.mp hq with rfl | hq
  · exact N _ hm'
  · rw [List.mem_singleton.mp hq]; exact N _ hm
end
end Mine
end

section
open PySem PySem.W PySem.Spec PySem.Calls PyProof.Rows
namespace Mine
section
variable {prog : Program} {w : World} {A : Around} {E : Value → Shared → Prop} {s : Shared} {Q : Value → Shared → Prop} {h₀ : Heap} {L : Addr} {news : Led} {r r' : Addr} {x y x' y' : Int} {t u t' u' : Tok} {c c' : Nat}
theorem cmp_lit (N : News h₀ L s.heap news) (hm : (r, tupO x y t u c) ∈ news) (hm' : (r', tupO x' y' t' u' c') ∈ news) (hx : x = x') (hy : y = y') (hu : A.units + 64 < cLine) (h : Q (.bool false) s) :
    wpAny (model prog w) A (compareOp .NotEq (.ref r) (.ref r')) Q E s := by
  subst hx hy
  refine ne_dataH (da := .tuple [.int x, .int y]) (db := .tuple [.int x, .int y]) (reads_tuple_at (News.get N hm) rfl rfl (by repeat constructor)) (reads_tuple_at (News.get N hm') rfl rfl (by repeat constructor)) rfl rfl hu ?_
  simpa [PyData.eqv, PyData.eqvAll] using h
end
end Mine
end

section
open PySem PySem.W PySem.Spec PySem.Calls PyProof.Rows
set_option maxRecDepth 100000
namespace Mine
/-- the ground with one frame hidden: what is left of it does not turn -/
def star (g : Heap) (L : Addr) : Heap := hideAll g [L]
section
variable {g g₁ h h' : Heap} {L L' b : Addr} {o oL : Obj} {m m' : Str → Option Value} {news tail : Led} {sl : Array (Option Value)}
theorem star_get (e : g.get? b = some o) (n : b ≠ L) : (star g L).get? b = some o := hideAll_get _ e (fun q => n (List.mem_singleton.mp q))
theorem of_star (e : (star g L).get? b = some o) : g.get? b = some o := of_hideAll _ e
theorem star_self : (star g L).get? L = none := hideAll_none _ (.head _)
theorem star_none (e : g.get? b = none) : (star g L).get? b = none := by
  cases q : (star g L).get? b with
  | none => rfl
  | some o => rw [of_star q] at e; cases e
theorem none_star (e : (star g L).get? b = none) (n : b ≠ L) : g.get? b = none := by
  cases q : g.get? b with
  | none => rfl
  | some o => rw [star_get q n] at e; cases e
theorem star_size : (star g L).objs.size = g.objs.size := hideAll_size _ _
theorem star_fr (F : Fr g L' h m') : Fr (star g L) L' h m' := ⟨F.ns, fun b o e => F.keep b o (of_star e), by rw [star_size]; exact F.above⟩
theorem star_news (F : Fr g L' h m') (N : News g L' h news) (hL : g.get? L = some oL) : News (star g L) L' h ((L, oL) :: news) := fun p hp => by
  rcases List.mem_cons.mp hp with rfl | hp
  · refine ⟨F.keep _ _ hL, fun q => ?_, star_self⟩
    have := kts_self F
    rw [← q, hL] at this
    cases this
  · exact ⟨(N p hp).1, (N p hp).2.1, star_none (N p hp).2.2⟩
theorem led_off (N : News g L' h news) (hL : g.get? L = some oL) : ∀ q ∈ news, q.1 ≠ L := fun q hq e => by
  have := (N q hq).2.2
  rw [e, hL] at this
  cases this
section
variable {A₁ : Around} {env : Env} {base : Heap}
theorem star_turn (B : Below A₁ base [env] g) (hf : env.frame = some L) (hL : g.get? L = some oL) (F : Fr (star g L) L' h m') (hh : h.get? L = some { oL with slots := sl }) :
    ∃ g₁, KtsTurn ([env].filterMap (·.frame)) g g₁ ∧ Fr g₁ L' h m' ∧ Below A₁ base [env] g₁ := by
  have hl : [env].filterMap (·.frame) = [L] := by simp [hf]
  have hb : base.get? L = none := (B.frames.mem (b := L) (by rw [hl]; exact .head _)).1
  obtain ⟨T, S⟩ := kts_turn_at (fs := [env].filterMap (·.frame)) (g := g) (h := h)
    (fun b hb => by
      rw [hl, List.mem_singleton] at hb
      exact ⟨_, hb ▸ hL⟩)
    (fun b o e n => F.keep b o (star_get e fun q => n (by rw [hl, q]; exact .head _)))
    (fun b o e n => by
      rw [hl, List.mem_singleton] at n
      subst n
      rw [hL] at e
      cases e
      exact ⟨_, hh⟩)
  refine ⟨_, T, ⟨F.ns, S, ?_⟩, ⟨B.stack, fun b o e => T.other b o (B.stays b o e) (fun q => ?_), B.frames.of_keeps fun b o e _ => ?_⟩⟩
  · have := F.above
    rw [star_size] at this
    rw [T.size]
    exact this
  · rw [hl, List.mem_singleton] at q
    rw [q, hb] at e
    cases e
  · obtain ⟨sl', hs'⟩ := T.up e
    exact ⟨_, hs', rfl⟩
variable {fs : List Addr}
theorem turn_news (T : KtsTurn fs g g₁) (N : News (star g L) L' h tail) (off : ∀ q ∈ tail, q.1 ≠ L) : News g₁ L' h tail := fun q hq => ⟨(N q hq).1, (N q hq).2.1, T.none_ _ (none_star (N q hq).2.2 (off q hq))⟩
theorem back_fr (hl : fs = [L]) (T : KtsTurn fs g g₁) (F : Fr g₁ L' h' m') : Fr (star g L) L' h' m' := by
  refine ⟨F.ns, fun b o e => F.keep b o (T.other b o (of_star e) fun q => ?_), ?_⟩
  · rw [hl, List.mem_singleton] at q
    rw [q, star_self] at e
    cases e
  · have := F.above
    rw [T.size] at this
    rw [star_size]
    exact this
theorem back_news (T : KtsTurn fs g g₁) (F : Fr g₁ L' h' m') (hL : g.get? L = some oL) (N : News g₁ L' h' tail) : ∃ sl, News (star g L) L' h' ((L, { oL with slots := sl }) :: tail) := by
  obtain ⟨sl, hs⟩ := T.up hL
  refine ⟨sl, fun p hp => ?_⟩
  rcases List.mem_cons.mp hp with rfl | hp
  · refine ⟨F.keep _ _ hs, fun q => ?_, star_self⟩
    have := kts_self F
    rw [← q, hs] at this
    cases this
  · refine ⟨(N p hp).1, (N p hp).2.1, star_none ?_⟩
    cases q : g.get? p.1 with
    | none => rfl
    | some o =>
      obtain ⟨sl', hs'⟩ := T.up q
      have := (N p hp).2.2
      rw [hs'] at this
      cases this
end
end

/-- one turn of the comprehension: a call that catches and answers None -/
theorem comp_turn {pr : Program} {K : World → Frag} {d : Nat} {f : Value} {tail : Led} {vs : List Value} {o : Option (Int × Int)} {w : World} {p : Program} {loose : List Str} {mean : ExcName → Option Value} {mg mb : Str → Option Value} {dp un : Nat} {gd : Option (List Code)} {cn : Str} {cs : Scope} {a : Addr} {ccd : Value} {cl : List (Str × Addr)} {env : Env} {A₀ : Around} {base g : Heap} {L L' I C D : Addr} {oI oC oD oL : Obj} {sl : Array (Option Value)} {m : Str → Option Value} {s₁ : Shared} {h : Heap} {tk : Nat} {E : Value → Shared → Prop} {S : Led → Prop} {rest : Value → Led → Prop}
    (T' : CallT pr K d f ((I, oI) :: (C, oC) :: (D, oD) :: tail) vs o) (ho : o = none) (B : Below A₀ base [env] g) (hf : env.frame = some L) (hL : g.get? L = some oL) (F : Fr (star g L) L' h m) (X : (K w).In base)
    (N : News (star g L) L' h ((I, oI) :: (C, oC) :: (D, oD) :: (L, { oL with slots := sl }) :: tail)) (T : Top p loose mean mg mb base) (hk : cs.kind = .function) (hd : dp + d < recursionLimit) (hu : un + 10 * d < cLine)
    (toff : ∀ q ∈ tail, q.1 ≠ L) (off : LCg.Off3 I C D ((L, { oL with slots := sl }) :: tail)) (hS : ∀ o, S ((L, o) :: tail)) (k : ∀ sl', rest .none ((L, { oL with slots := sl' }) :: tail)) :
    wpAny (model pr w) (ktrTop dp un gd cn cs L' a ccd cl [env]) (call f vs) (LCg.CompEnd (star g L) L' m s₁ I oI C oC D oD S rest) E { s₁ with heap := h, toks := tk } := by
  have hl : [env].filterMap (·.frame) = [L] := by simp [hf]
  obtain ⟨g₁, T₁, F₁, B₁⟩ := star_turn B hf hL F (N (L, _) (.tail _ (.tail _ (.tail _ (.head _))))).1
  have sub : ∀ q ∈ (I, oI) :: (C, oC) :: (D, oD) :: tail, q ∈ (I, oI) :: (C, oC) :: (D, oD) :: (L, { oL with slots := sl }) :: tail := fun q hq => by
    rcases List.mem_cons.mp hq with rfl | hq
    · exact .head _
    rcases List.mem_cons.mp hq with rfl | hq
    · exact .tail _ (.head _)
    rcases List.mem_cons.mp hq with rfl | hq
    · exact .tail _ (.tail _ (.head _))
    · exact .tail _ (.tail _ (.tail _ (.tail _ hq)))
  have N₁ : News g₁ L' h ((I, oI) :: (C, oC) :: (D, oD) :: tail) := turn_news T₁ (fun q hq => N q (sub q hq)) fun q hq => by
    rcases List.mem_cons.mp hq with rfl | hq
    · exact Ne.symm off.1.1
    rcases List.mem_cons.mp hq with rfl | hq
    · exact Ne.symm off.1.2.1
    rcases List.mem_cons.mp hq with rfl | hq
    · exact Ne.symm off.1.2.2
    · exact toff q hq
  refine T' _ _ _ _ _ _ _ _ _ _ _ _ _ _ _ _ _ _ _ _ _ _ _ B₁ F₁ (X.keeps B₁.stays) N₁ (T.keeps B₁.stays) hk hd hu X T (fun q e => by rw [ho] at e; cases e) fun _ h₀' h' tk' T₂ F₂ N₂ _ _ _ => ?_
  have T₃ := T₁.trans T₂
  obtain ⟨sl', N₃⟩ := back_news T₃ F₂ hL N₂
  refine ⟨h', tk', (L, { oL with slots := sl' }) :: tail, rfl, back_fr hl T₃ F₂, fun q hq => N₃ q ?_, off, hS _, k sl'⟩
  rcases List.mem_cons.mp hq with rfl | hq
  · exact .tail _ (.head _)
  rcases List.mem_cons.mp hq with rfl | hq
  · exact .tail _ (.tail _ (.head _))
  rcases List.mem_cons.mp hq with rfl | hq
  · exact .tail _ (.tail _ (.tail _ (.head _)))
  rcases List.mem_cons.mp hq with rfl | hq
  · exact .head _
  · exact .tail _ (.tail _ (.tail _ (.tail _ hq)))

/-- a call that answers, above the ground with the frame hidden -/
theorem star_callV {pr : Program} {K : World → Frag} {d : Nat} {f : Value} {tail news : Led} {vs : List Value} {o : Option (Int × Int)} {q : Int × Int} {w : World} {p : Program} {loose : List Str} {mean : ExcName → Option Value} {mg mb : Str → Option Value} {dp un : Nat} {gd : Option (List Code)} {cn : Str} {cs : Scope} {a : Addr} {ccd : Value} {cl : List (Str × Addr)} {env : Env} {A₀ : Around} {base g : Heap} {L L' : Addr} {oL : Obj} {sl : Array (Option Value)} {m : Str → Option Value} {s : Shared} {Q E : Value → Shared → Prop}
    (C : CallR pr K d f tail vs o) (ho : o = some q) (B : Below A₀ base [env] g) (hf : env.frame = some L) (hL : g.get? L = some oL) (F : Fr (star g L) L' s.heap m) (X : (K w).In base)
    (N : News (star g L) L' s.heap news) (hm : (L, { oL with slots := sl }) ∈ news) (T : Top p loose mean mg mb base) (hk : cs.kind = .function) (hd : dp + d < recursionLimit) (hu : un + 10 * d < cLine)
    (sub : ∀ q ∈ tail, q ∈ news) (toff : ∀ q ∈ tail, q.1 ≠ L)
    (k : ∀ r t u c h' tk' sl', Fr (star g L) L' h' m → News (star g L) L' h' ((L, { oL with slots := sl' }) :: (r, tupO q.1 q.2 t u c) :: tail) → (∀ q ∈ tail, q.1 < r) → Q (.ref r) { s with heap := h', toks := tk' }) :
    wpAny (model pr w) (ktrTop dp un gd cn cs L' a ccd cl [env]) (call f vs) Q E s := by
  have hl : [env].filterMap (·.frame) = [L] := by simp [hf]
  obtain ⟨g₁, T₁, F₁, B₁⟩ := star_turn B hf hL F (N _ hm).1
  have N₁ : News g₁ L' s.heap tail := turn_news T₁ (fun q hq => N q (sub q hq)) toff
  refine C _ _ _ _ _ _ _ _ _ _ _ _ _ _ _ _ _ _ _ _ _ _ _ B₁ F₁ (X.keeps B₁.stays) N₁ (T.keeps B₁.stays) hk hd hu (fun q' e => ?_) fun e => by rw [ho] at e; cases e
  rw [ho] at e
  cases e
  intro r t u c h' tk' F' N' l
  obtain ⟨sl', N₃⟩ := back_news T₁ F' hL N'
  exact k r t u c h' tk' sl' (back_fr hl T₁ F') N₃ l

/-- the end: the ground turned as the heap stands -/
theorem star_leave {A₀ A₁ : Around} {base g : Heap} {env : Env} {L L' : Addr} {oL : Obj} {sl : Array (Option Value)} {m m' : Str → Option Value} {news tail : Led} {R : Result → Shared → Prop} {v : Value} {s' : Shared}
    (B : Below A₁ base [env] g) (hf : env.frame = some L) (hL : g.get? L = some oL) (F : Fr (star g L) L' s'.heap m') (N : News (star g L) L' s'.heap news) (hm : (L, { oL with slots := sl }) ∈ news) (sub : ∀ q ∈ tail, q ∈ news) (toff : ∀ q ∈ tail, q.1 ≠ L)
    (k : Fr base L s'.heap m → News base L s'.heap tail → R (.ok (.ret v)) s') : LeaveT A₀ base env [] base L m g R v s' := by
  obtain ⟨g₁, T₁, F₁, _⟩ := star_turn B hf hL F (N _ hm).1
  exact Or.inr ⟨g₁, L', m', tail, T₁, F₁, turn_news T₁ (fun q hq => N q (sub q hq)) toff, fun h₀' T₂ F₂ N₂ _ => k (fr_turn0 T₂ F₂) (news_turn0 T₂ N₂)⟩
end Mine
namespace Mine
theorem star_stays {A₁ : Around} {env : Env} {base g : Heap} {L : Addr} (B : Below A₁ base [env] g) (hf : env.frame = some L) : ∀ b o, base.get? b = some o → (star g L).get? b = some o := fun b o e => by
  have hl : [env].filterMap (·.frame) = [L] := by simp [hf]
  refine star_get (B.stays b o e) fun q => ?_
  have := (B.frames.mem (b := L) (by rw [hl]; exact .head _)).1
  rw [← q, e] at this
  cases this
theorem off_seq {g h : Heap} {L L' r : Addr} {oL : Obj} {sl : Array (Option Value)} {all : Led} {x y : Int} {t u : Tok} {c : Nat} {es : Array DictEntry} {n : Nat} (N : News g L' h all) (hm : (L, { oL with slots := sl }) ∈ all) (hd : oL.data = .dict es n) (hr : (r, tupO x y t u c) ∈ all) : r ≠ L := fun q => by
  have h1 := (N _ hm).1
  have h2 := (N _ hr).1
  have h1' : h.get? L = some { oL with slots := sl } := h1
  have h2' : h.get? r = some (tupO x y t u c) := h2
  rw [q, h1'] at h2'
  have h3 := congrArg Obj.data (Option.some.inj h2')
  change oL.data = _ at h3
  rw [hd] at h3
  cases h3
section
variable {prog : Program} {w : World} {A : Around} {E : Value → Shared → Prop} {s : Shared} {Q : Value → Shared → Prop} {h₀ : Heap} {L : Addr} {news : Led} {r r' : Addr} {x y x' y' : Int} {t u t' u' : Tok} {c c' : Nat}
theorem cmp_litE (N : News h₀ L s.heap news) (hm : (r, tupO x y t u c) ∈ news) (hm' : (r', tupO x' y' t' u' c') ∈ news) (hx : x = x') (hy : y = y') (hu : A.units + 64 < cLine) (h : Q (.bool true) s) :
    wpAny (model prog w) A (compareOp .Eq (.ref r) (.ref r')) Q E s := by
  subst hx hy
  refine eq_dataH (da := .tuple [.int x, .int y]) (db := .tuple [.int x, .int y]) (reads_tuple_at (News.get N hm) rfl rfl (by repeat constructor)) (reads_tuple_at (News.get N hm') rfl rfl (by repeat constructor)) rfl rfl hu ?_
  simpa [PyData.eqv, PyData.eqvAll] using h
theorem cmp_nones {n n' : Nat} (N : News h₀ L s.heap news) (hm : (r, ({ cls := .type "list", data := .seq #[.none, .none, .none, .none, .none, .none] n } : Obj)) ∈ news) (hm' : (r', ({ cls := .type "list", data := .seq #[.none, .none, .none, .none, .none, .none] n' } : Obj)) ∈ news) (hu : A.units + 64 < cLine) (h : Q (.bool true) s) :
    wpAny (model prog w) A (compareOp .Eq (.ref r) (.ref r')) Q E s := by
  refine eq_dataH (da := .list [.none, .none, .none, .none, .none, .none]) (db := .list [.none, .none, .none, .none, .none, .none]) (reads_list_at (News.get N hm) rfl rfl (by repeat constructor)) (reads_list_at (News.get N hm') rfl rfl (by repeat constructor)) rfl rfl hu ?_
  simpa [PyData.eqv, PyData.eqvAll] using h
/-- the last call of the table -/
theorem star_pow {K : World → Frag} {pr : Program} {d : Nat} {f : Value} {o : Option (Int × Int)} {q : Int × Int} {w : World} {p : Program} {loose : List Str} {mean : ExcName → Option Value} {mg mb : Str → Option Value} {dp un : Nat} {gd : Option (List Code)} {cn : Str} {cs : Scope} {a : Addr} {ccd : Value} {cl : List (Str × Addr)} {env : Env} {A₀ : Around} {base g : Heap} {L L' ra rb : Addr} {oL : Obj} {sl : Array (Option Value)} {m : Str → Option Value} {s : Shared} {Q E : Value → Shared → Prop} {all news : Led} {x y x' y' : Int} {t u t' u' : Tok} {c c' : Nat} {es : Array DictEntry} {n : Nat}
    (C : CallR pr K d f ((ra, tupO x y t u c) :: (rb, tupO x' y' t' u' c') :: news) [.ref ra, .ref rb] o) (ho : o = some q) (B : Below A₀ base [env] g) (hf : env.frame = some L) (hL : g.get? L = some oL) (F : Fr (star g L) L' s.heap m) (X : (K w).In base)
    (N : News (star g L) L' s.heap all) (hm : (L, { oL with slots := sl }) ∈ all) (hdt : oL.data = .dict es n) (T : Top p loose mean mg mb base) (hk : cs.kind = .function) (hd : dp + d < recursionLimit) (hu : un + 10 * d < cLine)
    (h1 : (ra, tupO x y t u c) ∈ all) (h2 : (rb, tupO x' y' t' u' c') ∈ all) (sub : ∀ q ∈ news, q ∈ all) (toff : ∀ q ∈ news, q.1 ≠ L)
    (k : ∀ r t9 u9 c9 h' tk' sl', Fr (star g L) L' h' m → News (star g L) L' h' ((L, { oL with slots := sl' }) :: (r, tupO q.1 q.2 t9 u9 c9) :: (ra, tupO x y t u c) :: (rb, tupO x' y' t' u' c') :: news) → Q (.ref r) { s with heap := h', toks := tk' }) :
    wpAny (model pr w) (ktrTop dp un gd cn cs L' a ccd cl [env]) (call f [.ref ra, .ref rb]) Q E s := by
  refine star_callV C ho B hf hL F X N hm T hk hd hu (fun q hq => ?_) (fun q hq => ?_) fun r t9 u9 c9 h' tk' sl' F' N' _ => k r t9 u9 c9 h' tk' sl' F' N'
  · rcases List.mem_cons.mp hq with rfl | hq
    · exact h1
    rcases List.mem_cons.mp hq with rfl | hq
    · exact h2
    · exact sub q hq
  · rcases List.mem_cons.mp hq with rfl | hq
    · exact off_seq N hm hdt h1
    rcases List.mem_cons.mp hq with rfl | hq
    · exact off_seq N hm hdt h2
    · exact toff q hq
end
end Mine
end

section
open PySem PySem.W PySem.Spec PySem.Calls PyProof.Rows
set_option maxRecDepth 100000
set_option maxHeartbeats 2000000
namespace Mine
structure OffL (news : Led) (L : Addr) : Prop where
  off : ∀ q ∈ news, q.1 ≠ L
theorem ok_small {x y : Int} (h : x.natAbs < 10 ^ 100) (h0 : 0 ≤ y) (h1 : y ≤ 100) : Ok 400 (x, y) := ⟨Nat.lt_of_lt_of_le h (Nat.pow_le_pow_right (by decide) (by decide)), h0, h1⟩
def TMid (g : Heap) (L : Addr) (news : Led) (s s' : Shared) : Prop := ∃ (h : Heap) (tk : Nat) (m : Str → Option Value), s' = { s with heap := h, toks := tk } ∧ Fr g L h m ∧ News g L h news
theorem tab_split {M : Model} {A : Around} {env : Env} {Q : Flow → Shared → Prop} {E : Value → Shared → Prop} {l : List Stmt} {s : Shared} {g h : Heap} {L : Addr} {m : Str → Option Value} {news : Led} (n : Nat) (_F : Fr g L h m) (_N : News g L h news)
    (h1 : wpAny M A (execs (l.take n) env) (fun f s' => f = .next ∧ TMid g L news s s') E s) (k : ∀ s', TMid g L news s s' → wpAny M A (execs (l.drop n) env) Q E s') : wpAny M A (execs l env) Q E s := execs_split n _ h1 k
theorem use_callV {pr : Program} {K : World → Frag} {d : Nat} {f : Value} {news : Led} {vs : List Value} {o : Option (Int × Int)} {q : Int × Int} {w : World} {p : Program} {loose : List Str} {mean : ExcName → Option Value} {mg mb : Str → Option Value} {dp un : Nat} {gd : Option (List Code)} {cn : Str} {cs : Scope} {a : Addr} {ccd : Value} {cl : List (Str × Addr)} {outer : List Env} {A₀ : Around} {base h₀ : Heap} {L : Addr} {m : Str → Option Value} {s : Shared} {Q E : Value → Shared → Prop}
    (C : CallR pr K d f news vs o) (ho : o = some q) (B : Below A₀ base outer h₀) (F : Fr h₀ L s.heap m) (X : (K w).In h₀) (N : News h₀ L s.heap news) (T : Top p loose mean mg mb h₀) (hk : cs.kind = .function) (hd : dp + d < recursionLimit) (hu : un + 10 * d < cLine)
    (hR : RetP q h₀ L m news s Q) :
    wpAny (model pr w) (ktrTop dp un gd cn cs L a ccd cl outer) (call f vs) Q E s := C _ _ _ _ _ _ _ _ _ _ _ _ _ _ _ _ _ _ _ _ _ _ _ B F X N T hk hd hu (fun q' e => by rw [ho] at e; cases e; exact hR) fun e => by rw [ho] at e; cases e
local macro_rules | `(tactic| cell_enter) => `(tactic| (refine' code_defT ?k1 ?k2 ?k3 ?k4 ?k5 ?kA ?kF ?kK ?k6 ?k7 ?k8 ?k9 ?kB ?_ ?c2 ?c3 ?c4 ?c5; (case kA => exact rfl); (case kF => exact rfl); (case kK => assumption); (case k1 => k_asm); (case k2 => k_asm); (case k3 => k_asm); (case k4 => k_asm); (case k5 => k_asm); (case k6 => k_is); (case k7 => k_is); (case k8 => ktr_room); (case k9 => first | exact BindsTo.of_eq rfl | exact binds_K (by k_in) rfl (by k_is) rfl rfl rfl); (case c5 => decide); (case kB => exact locs rfl); (case c2 => exact rfl); (case c3 => exact rfl); (case c4 => exact rfl); k_whole; intro g' L' h' FG' F' N' B' X' T'; (try dsimp only); (try k_lift B'); (try k_fold)))
local macro_rules | `(tactic| walk_at "eval Call") => `(tactic| (k_here; k_dflt (refine Call_ ?_)))

theorem words_S5 : True := by
  k_with_none
  k_with "my call ref" =>
    (k_here; k_dflt (first
      | (refine' use_callV (K := fun w => hd.heap_39 w.params) (c_quot24 _ _ _ _ _ _ _ _ _ _ _ _ _ ?p1 ?p2 ?p3 ?p4) ?vv ?k1 ?k2 ?k3 ?k4 ?k5 ?kK ?kd ?ku ?_; ktn_open; (case p1 => k_mem); (case p2 => k_mem); (case vv => first | exact v_q1 | exact v_q4); (case p3 => (first | assumption | exact ok_zero | exact ok_one | exact ok_small (by decide +kernel) (by decide) (by decide))); (case p4 => (first | assumption | exact ok_zero | exact ok_one | exact ok_small (by decide +kernel) (by decide) (by decide))); (intro _ _ _ _ _ _ _ N9 l9; (clear l9); (try dsimp only at N9); (try dsimp only); (try k_fold)))
      | (refine' use_callV (K := fun w => hd.heap_39 w.params) (c_quot34 _ _ _ _ _ _ _ _ _ _ _ _ _ _ _ ?p1 ?p2 ?p3 ?p4 ?p5 ?p6) ?vv ?k1 ?k2 ?k3 ?k4 ?k5 ?kK ?kd ?ku ?_; ktn_open; (case p1 => k_mem); (case p2 => k_mem); (case vv => first | exact v_q2 | exact v_q3); (case p3 => (first | assumption | exact ok_zero | exact ok_one | exact ok_small (by decide +kernel) (by decide) (by decide))); (case p4 => (first | assumption | exact ok_zero | exact ok_one | exact ok_small (by decide +kernel) (by decide) (by decide))); (case p5 => decide); (case p6 => decide); (intro _ _ _ _ _ _ _ N9 l9; (clear l9); (try dsimp only at N9); (try dsimp only); (try k_fold)))
      | (refine' use_callV (K := fun w => hd.heap_39 w.params) (c_power _ _ _ _ _ _ _ _ _ _ _ _ _ ?p1 ?p2 ?p3) ?vv ?k1 ?k2 ?k3 ?k4 ?k5 ?kK ?kd ?ku ?_; ktn_open; (case p1 => k_mem); (case p2 => k_mem); (case vv => first | exact v_p1 | exact v_p2 | exact v_p3 | exact v_p4); (case p3 => (first | assumption | exact ok_zero | exact ok_one | exact ok_small (by decide +kernel) (by decide) (by decide))); (intro _ _ _ _ _ _ _ N9 l9; (clear l9); (try dsimp only at N9); (try dsimp only); (try k_fold)))
      | (refine' comp_turn (K := fun w => hd.heap_39 w.params) (told_pow _ _ _ _ _ _ _ _ _ _ _ _ _ ?p1 ?p2 ?p3) ?vv ?k1 ?hf ?hl ?k2 ?k3 ?k4 ?k5 ?kK ?kd ?ku ?to ?of ?hS ?_; (case hf => exact rfl); (case hl => assumption); ktn_open; (case p1 => k_mem); (case p2 => k_mem); (case vv => decide +kernel); (case p3 => (first | assumption | exact ok_zero | exact ok_one | exact ok_small (by decide +kernel) (by decide) (by decide))); (case to => assumption); (case of => assumption); (case hS => (intro _; exact Or.inr ⟨_, by k_mem, rfl, _, rfl⟩)); (intro _; (try dsimp only)))
      | (refine' star_pow (K := fun w => hd.heap_39 w.params) (c_power _ _ _ _ _ _ _ _ _ _ _ _ _ (.head _) (.tail _ (.head _)) ?p3) ?vv ?k1 ?hf ?hl ?k2 ?k3 ?k4 ?hm ?hdt ?k5 ?kK ?kd ?ku ?p1 ?p2 ?sub ?to ?_; (case hf => exact rfl); (case hl => assumption); ktn_open; (case p1 => k_mem); (case p2 => k_mem); (case hm => k_mem); (case hdt => assumption); (case vv => exact v_p4); (case p3 => exact ok_zero); (case to => exact OffL.off (by assumption)); (case sub => exact fun q hq => by (repeat (first | assumption | refine List.mem_cons_of_mem _ ?_))); (intro _ _ _ _ _ _ _ _ _; (try dsimp only); (try k_fold)))))
  trivial
local macro_rules | `(tactic| walk_at "compareOp NotEq ref ref") => `(tactic| (k_here; k_dflt (refine' cmp_lit ?qN ?qm ?qm2 ?qx ?qy ?qu ?_; (case qN => assumption); (case qm => k_mem); (case qm2 => k_mem); (case qx => decide +kernel); (case qy => decide +kernel); (case qu => first | assumption | units_room | ktr_units | omega))))
local macro_rules | `(tactic| walk_at "binaryOp Mult ref int") => `(tactic| (k_here; k_dflt (refine' KMa.mul (vs := [.none]) (ws := [.none, .none, .none, .none, .none, .none]) ?F ?N ?l ?lo ?hi ?z ?e ?_; (case F => k_asm); (case N => k_asm); (case l => is_list); (case lo => decide); (case hi => decide); (case z => decide); (case e => rfl)); (intro D' h' F' N' l1; (try k_fold))))
local macro_rules | `(tactic| walk_at "compareOp Eq ref ref") => `(tactic| (k_here; k_dflt (first
  | (refine' cmp_litE ?qN ?qm ?qm2 ?qx ?qy ?qu ?_; (case qN => assumption); (case qm => k_mem); (case qm2 => k_mem); (case qx => decide +kernel); (case qy => decide +kernel); (case qu => first | assumption | units_room | ktr_units | omega))
  | (refine' cmp_nones ?qN ?qm ?qm2 ?qu ?_; (case qN => assumption); (case qm => k_mem); (case qm2 => k_mem); (case qu => first | assumption | units_room | ktr_units | omega)))))
local macro_rules | `(tactic| walk_at "CompRestP") => `(tactic| (with_unfolding_all first
  | (refine LCp.CompRestP.succ ?_; intro v' hv'; lcg_open hv'; refine ⟨_, _, _, _, _, rfl, by k_mem, rfl, rfl, ?_⟩; intro I' oI' C' oC' D' m' h' tk' E' hC' hx' hy' F' N' off' ne')
  | refine LCp.CompRestP.zero ?_))
local macro_rules | `(tactic| walk_at "eval ListComp") => `(tactic| (k_here; k_dflt (refine hold_out ?_)))
theorem table_law {w : World} {p : Program} {loose : List Str} {mean : ExcName → Option Value} {mg mb : Str → Option Value} {dp un : Nat} {gd : Option (List Code)} {cn : Str} {cs : Scope} {a : Addr} {ccd : Value} {cl : List (Str × Addr)} {A₀ : Around} {base : Heap} {L : Addr} {m : Str → Option Value} {s : Shared} {Q E : Value → Shared → Prop} {news : Led}
    (B : Below A₀ base [] base) (F : Fr base L s.heap m) (X : (hd.heap_39 w.params).In base) (N : News base L s.heap news) (T : Top p loose mean mg mb base) (hk : cs.kind = .function) (hd9 : dp + 30 < recursionLimit) (hu : un + 10 * 30 < cLine) (hret : RetB true base L m news s Q) :
    wpAny (model PySem.Challenge.rw_pc0121_01.row.prog w) (ktrTop dp un gd cn cs L a ccd cl []) (call (.ref 153) []) Q E s := by
  revert X
  w_top off
  k_fill
  intro X
  dsimp only [RetB] at hret
  refine wpAny_call ?_
  k_dflt cell_enter
  refine tab_split 3 (by assumption) (by assumption) ?T1 ?T2
  case T1 =>
    dsimp only [List.take]
    refine tab_split 2 (by assumption) (by assumption) ?U1 ?U2
    case U1 =>
      dsimp only [List.take]
      k_steps
      rename_i F7 N7 l7
      exact ⟨_, _, _, rfl, F7, fun q hq => N7 q (by (repeat (first | assumption | refine List.mem_cons_of_mem _ ?_)))⟩
    case U2 =>
      dsimp only [List.drop]
      rintro s' ⟨h9, tk9, m9, rfl, F9, N9⟩
      (try dsimp only)
      k_steps
      rename_i F7 N7 l7
      exact ⟨_, _, _, rfl, F7, fun q hq => N7 q (by (repeat (first | assumption | refine List.mem_cons_of_mem _ ?_)))⟩
  case T2 =>
    rename_i g1 L1 h1 FG1 F1 N1 B1 X1 T1
    obtain ⟨oL, es1, ep1, hLg, hLd, hLk, hLf⟩ := FG1.ns
    dsimp only [List.drop]
    rintro s' ⟨h9, tk9, m9, rfl, F9, N9⟩
    have off1 : OffL news L := ⟨led_off N1 hLg⟩
    (try dsimp only)
    k_steps
    rename Fr _ _ _ _ => F8
    rename News _ _ _ _ => N8
    have off9 := led_off N8 hLg
    have hLg' : g1.get? L = some { oL with slots := oL.slots } := hLg
    have N9 := star_news F8 N8 hLg'
    have F9 := star_fr (L := L) F8
    have X9 := X.keeps (star_stays B1 rfl)
    have T9 := T.keeps (star_stays B1 rfl)
    clear F8 N8 X1 T1
    repeat (with_reducible rename @LT.lt Nat _ _ _ ∧ _ => lt9; clear lt9)
    refine LCp.ListComp_P (F₀ := F9) (by with_unfolding_all rfl) (by decide) (by rfl) (by decide) (by rfl) (by rfl) (by decide) ?_
    k_steps
    exact star_leave B1 rfl hLg (by assumption) (by assumption) (by k_mem) (fun q hq => by (repeat (first | assumption | refine List.mem_cons_of_mem _ ?_))) off1.off (fun kF kN => hret _ _ kF kN)
end Mine
end

section
open PySem PySem.W PySem.Spec PySem.Calls PyProof.Rows
set_option maxRecDepth 100000
set_option maxHeartbeats 20000000
namespace Mine
theorem use_callD {pr : Program} {K : World → Frag} {d : Nat} {l : Addr} {f : Value} {news : Led} {vs : List Value} {R : Ret} {w : World} {p : Program} {loose : List Str} {mean : ExcName → Option Value} {mg mb : Str → Option Value} {dp un : Nat} {gd : Option (List Code)} {cn : Str} {cs : Scope} {a : Addr} {ccd : Value} {cl : List (Str × Addr)} {outer : List Env} {A₀ : Around} {base h₀ : Heap} {L : Addr} {m : Str → Option Value} {s : Shared} {xs : List Int} {ys : List Value} {Q E : Value → Shared → Prop}
    (C : CallD pr K d l f news vs R) (B : Below A₀ base outer h₀) (F : Fr h₀ L s.heap m) (X : (K w).In h₀) (N : News h₀ L s.heap news) (T : Top p loose mean mg mb h₀) (hk : cs.kind = .function) (hd : dp + d < recursionLimit) (hu : un + 10 * d < cLine)
    (hl : base.IsList l ys.toArray) (hi : IntsAre ys xs) (hn : ¬ ((63 : Nat) : Int) < ((xs.length : Nat) : Int)) (hR : R h₀ L m news s Q) :
    wpAny (model pr w) (ktrTop dp un gd cn cs L a ccd cl outer) (call f vs) Q E s := C _ _ _ _ _ _ _ _ _ _ _ _ _ _ _ _ _ _ _ _ _ _ _ _ _ B F X N T hk hd hu hl hi hn hR

local macro_rules | `(tactic| walk_at "storeName") => `(tactic| (k_here; k_dflt (refine' storeX_C ?sF ?sN ?sc ?sU ?sd ?_ ?sa ?sb; (case sa => rfl); (case sb => rfl); (case sF => k_asm); (case sN => k_asm); (case sc => rfl); (case sU => k_updF); (case sd => assumption); k_whole; (intro h9' o9' F9' N9' d9'; (try dsimp only at N9')))))
local macro_rules | `(tactic| walk_at "exec Assign cons ListComp") => `(tactic| (k_here; k_dflt (refine LCg.Assign_ListComp_U (F₀ := by k_asm) (by rfl) (by with_unfolding_all rfl) (by rfl) (by decide) (by rfl) (by decide) (by rfl) (by rfl) (by rfl) ?_); k_dflt lcg_toSrc))
local macro_rules | `(tactic| walk_at "CompSrc") => `(tactic| (k_here; k_dflt (refine LCg.CompSrc.range (by rfl) (by k_asm) (by k_asm) (by assumption) (by first | decide | rfl) (by first | rfl | decide) (by first | size_fits | exact Nat.le_of_ble_eq_true rfl) ?_; intro g'; lcg_lit)))
local macro_rules | `(tactic| walk_at "CompRest") => `(tactic| (with_unfolding_all first
  | (refine LCg.CompRest.succ ?_; intro v' I' oI' C' oC' D' m' h' tk' E' hv' hC' hx' F' N' off' ne'; (obtain ⟨t9', hv9'⟩ := hv'; subst hv9'))
  | refine LCg.CompRest.zero ?_))
local macro_rules | `(tactic| walk_at "CompRestP") => `(tactic| (with_unfolding_all first
  | (refine LCp.CompRestP.succ ?_; intro v' hv'; lcg_open hv'; refine ⟨_, _, _, _, _, rfl, by k_mem, rfl, rfl, ?_⟩; intro I' oI' C' oC' D' m' h' tk' E' hC' hx' hy' F' N' off' ne')
  | refine LCp.CompRestP.zero ?_))
local macro_rules | `(tactic| walk_at "CompEnd") => `(tactic| (k_dflt (refine' compEnd_new ?F ?N ?l ?off ?S ?_; (case F => assumption); (case N => assumption); (case l => assumption); (case off => assumption); (case S => first | exact True.intro | exact Or.inr ⟨_, by k_mem, rfl, _, rfl⟩))))
local macro_rules | `(tactic| walk_at "eval Name") => `(tactic| (k_here; (with_reducible show wpAny _ _ (eval (Expr.Name _ _) (compEnvC _ _ _ _)) _ _ _); k_dflt (first
  | refine LCgL.ld_own (by k_asm) (by k_mem) (by assumption) (by assumption) ?_
  | refine LCgL.ld_global (by k_asm) (by k_asm) (by k_asm) (by k_is) ?_)))
inductive Seg : Nat → Prop where
  | mk (n : Nat) : Seg n
theorem fn_table0 : PySem.Challenge.rw_pc0121_01.row.prog = PySem.Challenge.rw_pc0121_01.row.prog ∧ ∀ (w : World) (g : Heap) (L : Addr) (h : Heap) (m : Str → Option Value), (hd.heap_39 w.params).In g → Fr g L h m → FnAt 153 h := by
  w_top off
  k_fill
  refine ⟨rfl, ?_⟩
  intro w g L h m X F
  exact ⟨_, _, _, _, F.keep _ _ (X _ _ (by k_dflt k_is))⟩
theorem words_L7 : True := by
  k_with_none
  k_with "my call ref" =>
    (k_here; k_dflt (first
      | (refine' use_callD (K := fun w => hd.heap_39 w.params) (c_ldec _ _ _ _ ?p1 ?p2) ?k1 ?k2 ?k3 ?k4 ?k5 ?kK ?kd ?ku ?hl ?hi ?hn ?_; (case p1 => first | decide | omega); (case p2 => first | decide | omega); ktn_open; (case hl => assumption); (case hi => assumption); (case hn => assumption); (intro _ _ _ _ _ _ _ _ _ _ _ _ _ _; (try dsimp only); (try k_fold)))
      | (refine' use_call (K := fun w => hd.heap_39 w.params) (c_dec _ _ _ _ _ ?p1 ?p2 ?p3) ?k1 ?k2 ?k3 ?k4 ?k5 ?kK ?kd ?ku ?_; (case p1 => exact Mag.mono (n := 80) (by assumption) (by decide)); (case p2 => omega); (case p3 => omega); ktn_open; (intro _ _ _ _ _ _ _ _ _; (try dsimp only); (try k_fold)))
      | (refine' told_law (K := fun w => hd.heap_39 w.params) (told_quot _ _ _ _ _ _ _ _ _ _ _ _ _ ?p1 ?p2 ?p3 ?p4) ?k1 ?k2 ?k3 ?k4 ?k5 ?kK ?kd ?ku ?hq ?h0 ?ht ?_; ktn_open; (case h0 => assumption); (case hq => k_mem); (case ht => k_mem); (case p1 => k_mem); (case p2 => k_mem); (case p3 => (first | assumption | exact ok_zero | exact ok_one | exact Ok.mono (by assumption) (by decide))); (case p4 => (first | assumption | exact ok_zero | exact ok_one | exact Ok.mono (by assumption) (by decide))); (intro _ _ _ _ _ _ _ _ _; (try dsimp only); (try k_fold)))
      | (refine' use_call (K := fun w => hd.heap_39 w.params) (c_lquo4 _ _ _ _ _ _ _ _ _ _ _ _ _ _ _ ?p1 ?p2 ?p3 ?p4 ?p5 ?p6) ?k1 ?k2 ?k3 ?k4 ?k5 ?kK ?kd ?ku ?_; ktn_open; (case p1 => k_mem); (case p2 => k_mem); (case p3 => (first | assumption | exact ok_zero | exact ok_one | exact Ok.mono (by assumption) (by decide))); (case p4 => (first | assumption | exact ok_zero | exact ok_one | exact Ok.mono (by assumption) (by decide))); (case p5 => first | decide | omega | assumption | exact Int.fmod_nonneg_of_pos _ (by decide)); (case p6 => first | decide | omega | assumption | exact Int.le_trans (Int.le_of_lt (Int.fmod_lt_of_pos _ (by decide))) (by decide)); refine' retA_O ?hq ?h0 ?ht ?_; (case h0 => assumption); (case hq => k_mem); (case ht => k_mem); (intro _ _ _ _ _ _ _ _ _; (try dsimp only); (try k_fold)))
      | (refine' use_callR (K := fun w => hd.heap_39 w.params) (c_quot34 _ _ _ _ _ _ _ _ _ _ _ _ _ _ _ ?p1 ?p2 ?p3 ?p4 ?p5 ?p6) ?k1 ?k2 ?k3 ?k4 ?k5 ?kK ?kd ?ku ?_ ?_; ktn_open; (case p1 => k_mem); (case p2 => k_mem); (case p3 => (first | assumption | exact ok_zero | exact ok_one | exact Ok.mono (by assumption) (by decide))); (case p4 => (first | assumption | exact ok_zero | exact ok_one | exact Ok.mono (by assumption) (by decide))); (case p5 => first | decide | omega | assumption | exact Int.fmod_nonneg_of_pos _ (by decide)); (case p6 => first | decide | omega | assumption | exact Int.le_trans (Int.le_of_lt (Int.fmod_lt_of_pos _ (by decide))) (by decide)); (all_goals first | ((with_reducible show ∀ _ : Int × Int, _); (intro _ _ _ _ _ _ _ _ _ _ _); (try dsimp only); (try k_fold)) | (intro _ _ _ _ _ _ _ _; (try dsimp only); (try k_fold))))
      | (refine' told_law (K := fun w => hd.heap_39 w.params) (told_lam _ _ _ _ _ _ _ _ _ _ _ _ _ _ _ _ _ _ ?p1 ?p2 ?pc ?pm ?pF ?_) ?k1 ?k2 ?k3 ?k4 ?k5 ?kK ?kd ?ku ?hq ?h0 ?ht ?_; ktn_open; (case h0 => assumption); (case hq => k_mem); (case ht => k_mem); (case p1 => k_mem); (case p2 => k_mem); (case pc => assumption); (case pm => k_mem); (case pF => exact fun w g L h m X F N => FnAt.of N (by k_mem)); (all_goals first | (with_reducible show Called _ _ _ _ _ _ _) | (intro _ _ _ _ _ _ _ _ _; (try dsimp only); (try k_fold))))
      | (refine' told_law (K := fun w => hd.heap_39 w.params) (told_pow _ _ _ _ _ _ _ _ _ _ _ _ _ ?p1 ?p2 ?p3) ?k1 ?k2 ?k3 ?k4 ?k5 ?kK ?kd ?ku ?hq ?h0 ?ht ?_; ktn_open; (case h0 => assumption); (case hq => k_mem); (case ht => k_mem); (case p1 => k_mem); (case p2 => k_mem); (case p3 => (first | assumption | exact ok_zero | exact ok_one | exact Ok.mono (by assumption) (by decide))); (intro _ _ _ _ _ A9 _ _ _; (try (have z9 := isAns_none A9 (by first | exact pwr_n1 (by decide) | exact pwr_n2 (by omega) | exact pwr_n3 (by assumption) (by omega)); subst z9)); (try dsimp only); (try k_fold)))
      | (refine' use_call (K := fun w => hd.heap_39 w.params) (c_lpow _ _ _ _ _ _ _ _ _ ?p1 ?p2 ?p3) ?k1 ?k2 ?k3 ?k4 ?k5 ?kK ?kd ?ku ?_; ktn_open; (case p1 => k_mem); (case p2 => (first | assumption | exact ok_zero | exact ok_one | exact Ok.mono (by assumption) (by decide))); (case p3 => exact steps_small _); refine' retA_O ?hq ?h0 ?ht ?_; (case h0 => assumption); (case hq => k_mem); (case ht => k_mem); (intro _ _ _ _ _ _ _ _ _; (try dsimp only); (try k_fold)))
      | (refine' table_law ?k1 ?k2 ?k3 ?k4 ?k5 ?kK ?kd ?ku ?_; ktn_open; (intro _ _ _ _; (try dsimp only); (try k_fold)))
      | (refine wpAny_call ?_; refine' kla_code ?k1 ?k2 ?k3 ?k4 ?k5 ?kA ?kF ?kK ?k6 ?k7 ?k8 ?k9 ?kB ?_ ?c2 ?c3 ?c4 ?c5; (case kA => exact rfl); (case kF => exact rfl); (case kK => assumption); (case k1 => k_asm); (case k2 => k_asm); (case k3 => k_asm); (case k4 => k_asm); (case k5 => k_asm); (case k6 => k_mem); (case k7 => exact codeRec_news (by k_asm) (by k_mem) (by assumption) (by assumption)); (case k8 => ktr_room); (case k9 => exact rfl); (case c5 => decide); (case kB => exact locs rfl); (case c2 => exact rfl); (case c3 => exact rfl); (case c4 => exact rfl); k_whole; (intro _ _ _ _ _ _ B9' _ _); (try dsimp only); (try k_lift B9'); (try k_fold))))
  trivial
local macro_rules | `(tactic| walk_at "compareOp NotEq") => `(tactic| (k_here; k_dflt (first
  | (refine' cmp_same ?qH ?qH2 ?qN ?qu ?_; (case qN => assumption); (case qH => assumption); (case qH2 => assumption); (case qu => first | units_room | decide +kernel | omega); (intro N9))
  | (refine' cmp_any ?qH ?qH2 ?qN ?qm ?qm2 ?qo ?qu ?_; (case qH => assumption); (case qH2 => assumption); (case qN => assumption); (case qm => k_mem); (case qm2 => k_mem); (case qo => first | rfl | exact pwr_g1 rfl (steps_99 _) (by assumption) | exact pwr_g2 rfl (steps_99 _) (by omega)); (case qu => first | units_room | decide +kernel | omega)))))
local macro_rules | `(tactic| walk_at "Called") => `(tactic| (k_dflt (refine called_led ?_); (intro news9 w9 p9 loose9 mean9 mg9 mb9 dp9 un9 gd9 cn9 cs9 a9 ccd9 cl9 outer9 A9 base9 h09 L9 m9 s9 Q9 E9 B9 F9 X9 N9 T9 hk9 hd9 hu9 hret9 hexc9); (try simp only [List.cons_append, List.nil_append] at N9); (try dsimp only at X9)))
local macro_rules | `(tactic| walk_at "leaving ref") => `(tactic| (k_here; k_dflt (first
  | (refine' leave_sf ?K ?F ?N ?l ?_; (case N => assumption); (case l => assumption); (case K => assumption); (case F => assumption); k_whole; (intro hR' R' U'; (try dsimp only at R' U' ⊢)))
  | (refine' leave_on ?z ?K ?F ?R ?U ?_; (case z => rfl); (case R => assumption); (case K => assumption); (case F => assumption); (case U => assumption); k_whole; (intro hR' R' U'; (try dsimp only at R' U' ⊢))))))
local macro_rules | `(tactic| walk_at "callWith ref") => `(tactic| (k_here; (have q9 : Seg 3 := by with_reducible assumption); clear q9; k_dflt (refine' callWith_F0 ?k1 ?_; (case k1 => exact fn_table0.2 _ _ _ _ _ (by assumption) (by assumption)); (try dsimp only [List.nil_append]))))
local macro_rules | `(tactic| walk_at "eval Call") => `(tactic| (k_here; (have q9 : Seg 3 := by with_reducible assumption); clear q9; k_dflt (refine Call_ ?_)))
theorem law_all : PySem.Challenge.rw_pc0121_01.Holds := hd (by
  w_top off
  k_go0
  rename Frag.In _ _ => X9
  rename Top _ _ _ _ _ _ => T9
  rename Below _ _ _ _ => K9
  rename Fr _ _ _ _ => F9
  rename News _ _ _ _ => N9
  rename Heap.IsList _ _ _ => hl9
  rename IntsAre _ _ => hi9
  rename ¬ _ < _ => hn9
  rename_i w s₀ s₁ mg mb G Y fa o pm doc ho hg X V T B TE TW hcd xs hs hlay0 hL1 hr1 hl2 wa wb l ys wc hL ra w1 r0 hr hcond' hD h₁ tk₁ o2 o1 e2 e1 z7 l0
  (first
    | (have e2' : o2.data = .cell none := e2; have e1' : o1.data = .cell (some (.ref l)) := e1; clear e2 e1)
    | (have e1' : o1.data = .cell none := e1; have e2' : o2.data = .cell (some (.ref l)) := e2; clear e2 e1))
  refine law_split F9 ?walk ?post
  case post =>
    intro h' tk' m' news ps F N hm
    k_steps
  case walk =>
    generalize bindL _ _ _ = m9 at F9
    clear hD hr r0 w1 ra hL hl2 hr1 hL1 hlay0 hs hcd TW TE B T V X hg ho Y G z7
    clear hT8 hT9 hcond'
    dsimp only at *
    generalize ghostOf s₁.heap _ = base at *
    generalize s₁.heap.objs.size = L at *
    generalize ExcName.means s₀.heap = mean at *
    generalize looseW hd.view_39 _ ++ _ ++ _ ++ _ = loose at *
    refine execs_split 2 (Mid1 base L s₁ [(L + 1 + 1, o2), (L + 1, o1), (155, tabObj #[])]) ?A ?B
    case A =>
      dsimp only [List.take]
      k_steps
      rename_i F8 N8
      exact Mid1.intro F8 rfl rfl rfl N8 (by (first | exact List.mem_cons_self | assumption | (refine List.mem_cons_of_mem _ ?_; (first | exact List.mem_cons_self | assumption | (refine List.mem_cons_of_mem _ ?_; (first | exact List.mem_cons_self | assumption | (refine List.mem_cons_of_mem _ ?_; (first | exact List.mem_cons_self | assumption | (refine List.mem_cons_of_mem _ ?_; (first | exact List.mem_cons_self | assumption | (refine List.mem_cons_of_mem _ ?_; (first | exact List.mem_cons_self | assumption | (refine List.mem_cons_of_mem _ ?_; (first | exact List.mem_cons_self | assumption | (refine List.mem_cons_of_mem _ ?_; (first | exact List.mem_cons_self | assumption | (refine List.mem_cons_of_mem _ ?_; (first | exact List.mem_cons_self | assumption | (refine List.mem_cons_of_mem _ ?_; (first | exact List.mem_cons_self | assumption | (refine List.mem_cons_of_mem _ ?_; (first | exact List.mem_cons_self | assumption | (refine List.mem_cons_of_mem _ ?_; (first | exact List.mem_cons_self | assumption | (refine List.mem_cons_of_mem _ ?_; (first | exact List.mem_cons_self | assumption)))))))))))))))))))))))))) (by (first | exact List.mem_cons_self | assumption | (refine List.mem_cons_of_mem _ ?_; (first | exact List.mem_cons_self | assumption | (refine List.mem_cons_of_mem _ ?_; (first | exact List.mem_cons_self | assumption | (refine List.mem_cons_of_mem _ ?_; (first | exact List.mem_cons_self | assumption | (refine List.mem_cons_of_mem _ ?_; (first | exact List.mem_cons_self | assumption | (refine List.mem_cons_of_mem _ ?_; (first | exact List.mem_cons_self | assumption | (refine List.mem_cons_of_mem _ ?_; (first | exact List.mem_cons_self | assumption | (refine List.mem_cons_of_mem _ ?_; (first | exact List.mem_cons_self | assumption | (refine List.mem_cons_of_mem _ ?_; (first | exact List.mem_cons_self | assumption | (refine List.mem_cons_of_mem _ ?_; (first | exact List.mem_cons_self | assumption | (refine List.mem_cons_of_mem _ ?_; (first | exact List.mem_cons_self | assumption | (refine List.mem_cons_of_mem _ ?_; (first | exact List.mem_cons_self | assumption | (refine List.mem_cons_of_mem _ ?_; (first | exact List.mem_cons_self | assumption)))))))))))))))))))))))))) (by (first | exact List.mem_cons_self | assumption | (refine List.mem_cons_of_mem _ ?_; (first | exact List.mem_cons_self | assumption | (refine List.mem_cons_of_mem _ ?_; (first | exact List.mem_cons_self | assumption | (refine List.mem_cons_of_mem _ ?_; (first | exact List.mem_cons_self | assumption | (refine List.mem_cons_of_mem _ ?_; (first | exact List.mem_cons_self | assumption | (refine List.mem_cons_of_mem _ ?_; (first | exact List.mem_cons_self | assumption | (refine List.mem_cons_of_mem _ ?_; (first | exact List.mem_cons_self | assumption | (refine List.mem_cons_of_mem _ ?_; (first | exact List.mem_cons_self | assumption | (refine List.mem_cons_of_mem _ ?_; (first | exact List.mem_cons_self | assumption | (refine List.mem_cons_of_mem _ ?_; (first | exact List.mem_cons_self | assumption | (refine List.mem_cons_of_mem _ ?_; (first | exact List.mem_cons_self | assumption | (refine List.mem_cons_of_mem _ ?_; (first | exact List.mem_cons_self | assumption | (refine List.mem_cons_of_mem _ ?_; (first | exact List.mem_cons_self | assumption)))))))))))))))))))))))))) (fun q hq => by (repeat (first | assumption | refine List.mem_cons_of_mem _ ?_))) (dec_ok (by assumption) (by assumption) (by assumption)) (dec_ok (by assumption) (by assumption) (by assumption)) (dec_ok (by assumption) (by assumption) (by assumption)) (fun q hq => by (refine lt_of_led (by assumption) ?_; (repeat (first | assumption | refine List.mem_cons_of_mem _ ?_)))) (fun q hq => by (refine lt_of_led (by assumption) ?_; (repeat (first | assumption | refine List.mem_cons_of_mem _ ?_)))) (fun q hq => by (refine lt_of_led (by assumption) ?_; (repeat (first | assumption | refine List.mem_cons_of_mem _ ?_))))
    case B =>
      dsimp only [List.drop]
      rintro s' ⟨h9, tk9, r1, r2, r3, a0, a1, b0, b1, d0, d1, ta, ua, tb, ub, tc, uc, ca, cb, cc, m', rfl, ok1, ok2, ok3, lt9, F9', m1, m2, m3, N9'⟩
      have F9' := fr_named3 F9' m1 m2 m3
      clear m1 m2 m3 F9 N9
      obtain ⟨x1, x2, x3⟩ := lt9 _ (.head _)
      obtain ⟨x4, x5, x6⟩ := lt9 _ (.tail _ (.head _))
      obtain ⟨x7, x8, x9⟩ := lt9 _ (.tail _ (.tail _ (.head _)))
      clear lt9
      replace x1 : @LT.lt Nat _ (L + 1 + 1) r1 := x1
      replace x2 : @LT.lt Nat _ (L + 1 + 1) r2 := x2
      replace x3 : @LT.lt Nat _ (L + 1 + 1) r3 := x3
      replace x4 : @LT.lt Nat _ (L + 1) r1 := x4
      replace x5 : @LT.lt Nat _ (L + 1) r2 := x5
      replace x6 : @LT.lt Nat _ (L + 1) r3 := x6
      replace x7 : @LT.lt Nat _ 155 r1 := x7
      replace x8 : @LT.lt Nat _ 155 r2 := x8
      replace x9 : @LT.lt Nat _ 155 r3 := x9
      (try dsimp only)
      have anc : Anchor r1 := ⟨x7⟩
      refine execs_split 2 (Mid2 base L s₁) ?B1 ?C
      case B1 =>
        dsimp only [List.take]
        k_steps
        all_goals first
          | (rename_i F8 N8; exact ⟨_, Mid1.intro F8 rfl rfl rfl N8 (by k_mem) (by k_mem) (by k_mem) (fun q hq => by rw [List.mem_singleton.mp hq]; k_mem) (by assumption) (by assumption) (by assumption) (fun q hq => by rw [List.mem_singleton.mp hq]; assumption) (fun q hq => by rw [List.mem_singleton.mp hq]; assumption) (fun q hq => by rw [List.mem_singleton.mp hq]; assumption)⟩)
          | (rename_i l9 kF kN Tc kX; (rename (∀ _ : Int × Int, quo _ _ _ = some _ → _) => hr8); exact ret_P (hr8 _ (by assumption)) rfl kF kN (.head _) (fun q hq => by (repeat (first | assumption | refine List.mem_cons_of_mem _ ?_))) (fun q hq => l9 q (by (repeat (first | assumption | refine List.mem_cons_of_mem _ ?_)))))
          | (rename_i R' U'; (rename (quo _ _ _ = none → _) => he8); exact he8 (by assumption) _ _ _ _ (by assumption) (raised_sub R' (fun q hq => by (repeat (first | assumption | refine List.mem_cons_of_mem _ ?_)))) U')
      case C =>
        dsimp only [List.drop]
        clear anc x1 x2 x3 x4 x5 x6 x7 x8 x9 ok1 ok2 ok3 F9' N9' e1' e2' codeHd hl9 hi9 hn9
        rintro s' ⟨ps, h9, tk9, r1, r2, r3, a0, a1, b0, b1, d0, d1, ta, ua, tb, ub, tc, uc, ca, cb, cc, m', rfl, ok1, ok2, ok3, lt9, F9', m1, m2, m3, N9'⟩
        have F9' := fr_named3 F9' m1 m2 m3
        clear m1 m2 m3
        obtain ⟨x7, x8, x9⟩ := lt9 _ (.head _)
        clear lt9
        replace x7 : @LT.lt Nat _ 155 r1 := x7
        replace x8 : @LT.lt Nat _ 155 r2 := x8
        replace x9 : @LT.lt Nat _ 155 r3 := x9
        (try dsimp only)
        have anc : Anchor r1 := ⟨x7⟩
        have seg3 : Seg 3 := .mk 3
        k_steps
        all_goals (rename_i F8 N8; exact LawEnd.intro F8 N8 (by k_mem)))
end Mine
end

end

theorem PySem.Challenge.cw_pc0121_01_holds : PySem.Challenge.rw_pc0121_01.Holds := by
  exact Mine.law_all
