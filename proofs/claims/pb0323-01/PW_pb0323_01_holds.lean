import PyProof.Rows.All
import Wide.All
import OpenK.AllK
import Wide.FinOn
import PySem.Challenge.RW_pb0323_01
open PySem PySem.W PySem.Calls PyProof.Rows
set_option Elab.async false
namespace Mine
set_option maxRecDepth 100000
set_option maxHeartbeats 8000000
open_top hd for PySem.Challenge.rw_pb0323_01
end Mine
namespace Mine

set_option maxRecDepth 100000
noncomputable abbrev PR : Program := PySem.Challenge.rw_pb0323_01.row.prog
noncomputable abbrev LS : List Str := looseW hd.view_39 [Str.ofString "pack"]

/-- tells k_fill which row and which heap are meant -/
def Seen (_ : OpenLaw) (_ : Params → Frag) (P : Prop) : Prop := P

/-- what a call of the def at f with these arguments gives back, and the ledger behind it -/
abbrev Con (w : World) (mean : ExcName → Option Value) (mg mb : Str → Option Value) (f : Addr) (D U : Nat) (vs : List Value) (news : List (Addr × Obj)) (Post : Value → List (Addr × Obj) → Prop) : Prop :=
  ∀ (dp un : Nat) (gd : Option (List Code)) (cn : Str) (cs : Scope) (a : Addr) (ccd : Value) (cl : List (Str × Addr)) (outer : List Env) (A₀ : Around) (base h₀ : Heap) (L : Addr) (m : Str → Option Value) (s : Shared) (Q E : Value → Shared → Prop),
    Below A₀ base outer h₀ → Fr h₀ L s.heap m → (hd.heap_39 w.params).In h₀ → News h₀ L s.heap news → Top hd.view_39 LS mean mg mb h₀ → cs.kind = .function →
    dp + D < recursionLimit → un + U < cLine →
    (∀ (v : Value) (nx : List (Addr × Obj)) (h' : Heap) (tk' : Nat), Post v nx → Fr h₀ L h' m → News h₀ L h' nx → Q v { s with heap := h', toks := tk' }) →
      wpAny (model PR w) (ktrTop dp un gd cn cs L a ccd cl outer) (call (.ref f) vs) Q E s
theorem con_use {w : World} {mean : ExcName → Option Value} {mg mb : Str → Option Value} {f : Addr} {D U : Nat} {vs : List Value} {news news₀ : List (Addr × Obj)} {Post : Value → List (Addr × Obj) → Prop}
    {dp un : Nat} {gd : Option (List Code)} {cn : Str} {cs : Scope} {a : Addr} {ccd : Value} {cl : List (Str × Addr)} {outer : List Env} {A₀ : Around} {base h₀ : Heap} {L : Addr} {m : Str → Option Value} {s : Shared} {Q E : Value → Shared → Prop}
    (C : Con w mean mg mb f D U vs news Post) (B : Below A₀ base outer h₀) (F : Fr h₀ L s.heap m) (X : (hd.heap_39 w.params).In h₀) (N : News h₀ L s.heap news₀) (hn : ∀ p ∈ news, p ∈ news₀) (T : Top hd.view_39 LS mean mg mb h₀) (hk : cs.kind = .function)
    (hdp : dp + D < recursionLimit) (hun : un + U < cLine)
    (ret : ∀ (v : Value) (nx : List (Addr × Obj)) (h' : Heap) (tk' : Nat), Post v nx → Fr h₀ L h' m → News h₀ L h' nx → Q v { s with heap := h', toks := tk' }) :
    wpAny (model PR w) (ktrTop dp un gd cn cs L a ccd cl outer) (call (.ref f) vs) Q E s :=
  C dp un gd cn cs a ccd cl outer A₀ base h₀ L m s Q E B F X (fun p hp => N p (hn p hp)) T hk hdp hun ret
theorem con_use0 {w : World} {mean : ExcName → Option Value} {mg mb : Str → Option Value} {f : Addr} {D U : Nat} {vs : List Value} {news : List (Addr × Obj)} {Post : Value → List (Addr × Obj) → Prop}
    {dp un : Nat} {gd : Option (List Code)} {cn : Str} {cs : Scope} {a : Addr} {ccd : Value} {cl : List (Str × Addr)} {outer : List Env} {A₀ : Around} {base h₀ : Heap} {L : Addr} {m : Str → Option Value} {s : Shared} {Q E : Value → Shared → Prop}
    (C : Con w mean mg mb f D U vs news Post) (B : Below A₀ base outer h₀) (F : Fr h₀ L s.heap m) (X : (hd.heap_39 w.params).In h₀) (N : News h₀ L s.heap news) (T : Top hd.view_39 LS mean mg mb h₀) (hk : cs.kind = .function)
    (hdp : dp + D < recursionLimit) (hun : un + U < cLine)
    (ret : ∀ (v : Value) (nx : List (Addr × Obj)) (h' : Heap) (tk' : Nat), Post v nx → Fr h₀ L h' m → News h₀ L h' nx → Q v { s with heap := h', toks := tk' }) :
    wpAny (model PR w) (ktrTop dp un gd cn cs L a ccd cl outer) (call (.ref f) vs) Q E s :=
  C dp un gd cn cs a ccd cl outer A₀ base h₀ L m s Q E B F X N T hk hdp hun ret

end Mine
namespace Mine


/-- 2 ^ n for an int n -/
def pw (n : Int) : Int := 2 ^ n.toNat
theorem pw_pos (n : Int) : 0 < pw n := pow_pos_of (by decide) _
theorem pw_nat (k : Nat) : pw (k : Int) = 2 ^ k := by simp [pw]
theorem pw_cast (n : Int) : pw n = ((2 ^ n.toNat : Nat) : Int) := by simp [pw]
theorem pw_add {a b : Int} (ha : 0 ≤ a) (hb : 0 ≤ b) : pw (a + b) = pw a * pw b := by
  unfold pw
  rw [← Int.pow_add]
  congr 1
  omega
theorem pw_zero : pw 0 = 1 := rfl
theorem pw_one : pw 1 = 2 := rfl
theorem pw_succ {a : Int} (ha : 0 ≤ a) : pw (a + 1) = 2 * pw a := by
  rw [pw_add ha (by decide), pw_one, Int.mul_comm]
theorem pw_lt {a b : Int} (ha : 0 ≤ a) (h : a < b) : pw a < pw b := by
  rw [pw_cast, pw_cast]
  have : 2 ^ a.toNat < 2 ^ b.toNat := Nat.pow_lt_pow_right (by decide) (by omega)
  omega
theorem pw_le {a b : Int} (h : a ≤ b) : pw a ≤ pw b := by
  rw [pw_cast, pw_cast]
  have : 2 ^ a.toNat ≤ 2 ^ b.toNat := Nat.pow_le_pow_right (by decide) (by omega)
  omega
theorem lt_pw {a : Int} : a < pw a := by
  have hp := pw_pos a
  by_cases h : a < 0
  · omega
  · rw [pw_cast] at hp ⊢
    have h1 : a.toNat < 2 ^ a.toNat := Nat.lt_two_pow_self
    generalize 2 ^ a.toNat = x at *
    omega
theorem lt_of_pw_lt {a b : Int} (_ha : 0 ≤ a) (h : pw a < pw b) : a < b := by
  by_cases q : a < b
  · exact q
  · have := pw_le (a := b) (b := a) (by omega)
    omega
theorem le_of_pw_le {a b : Int} (hb : 0 ≤ b) (h : pw a ≤ pw b) : a ≤ b := by
  by_cases q : a ≤ b
  · exact q
  · have := pw_lt (a := b) (b := a) hb (by omega)
    omega

theorem fdiv_bounds (a : Int) {b : Int} (hb : 0 < b) : a.fdiv b * b ≤ a ∧ a < a.fdiv b * b + b := by
  rw [Int.fdiv_eq_ediv_of_nonneg _ (Int.le_of_lt hb)]
  have h1 := Int.emod_nonneg a (show b ≠ 0 by omega)
  have h2 := Int.emod_lt_of_pos a hb
  have h3 := Int.emod_def a b
  rw [Int.mul_comm] at h3
  omega
theorem fdiv_eq {a b q : Int} (h1 : q * b ≤ a) (h2 : a < q * b + b) : a.fdiv b = q := by
  have hb : 0 < b := by omega
  rw [Int.fdiv_eq_ediv_of_nonneg _ (Int.le_of_lt hb)]
  have := (Int.ediv_emod_unique (a := a) (b := b) (q := q) (r := a - q * b) hb).mpr ⟨by rw [Int.mul_comm b q]; omega, by omega, by omega⟩
  exact this.1
theorem fmod_eq (a b : Int) : a.fmod b = a - a.fdiv b * b := by
  have := Int.fmod_def a b
  rw [Int.mul_comm] at this
  exact this
theorem fdiv_nonneg' {a b : Int} (ha : 0 ≤ a) (hb : 0 < b) : 0 ≤ a.fdiv b := by
  rw [Int.fdiv_eq_ediv_of_nonneg _ (Int.le_of_lt hb)]
  exact Int.ediv_nonneg ha (Int.le_of_lt hb)
theorem fdiv_le' {a b : Int} (ha : 0 ≤ a) (hb : 0 < b) : a.fdiv b ≤ a := by
  rw [Int.fdiv_eq_ediv_of_nonneg _ (Int.le_of_lt hb)]
  exact Int.ediv_le_self _ ha
theorem fdiv_pos_iff {a b : Int} (ha : 0 ≤ a) (hb : 0 < b) : 0 < a.fdiv b ↔ b ≤ a := by
  obtain ⟨h1, h2⟩ := fdiv_bounds a hb
  have h0 := fdiv_nonneg' ha hb
  constructor
  · intro h
    have : 1 * b ≤ a.fdiv b * b := Int.mul_le_mul_of_nonneg_right h (Int.le_of_lt hb)
    omega
  · intro h
    by_cases q : 0 < a.fdiv b
    · exact q
    · have e : a.fdiv b = 0 := by omega
      rw [e] at h2
      omega

/-- the number of bits -/
def bl (m : Int) : Int := if m ≤ 0 then 0 else (Nat.log2 m.toNat : Int) + 1
theorem bl_zero : bl 0 = 0 := rfl
theorem bl_nonneg (m : Int) : 0 ≤ bl m := by
  unfold bl; split <;> omega
theorem bl_pos {m : Int} (h : 0 < m) : 1 ≤ bl m := by
  unfold bl; rw [if_neg (by omega)]; omega
theorem bl_lo {m : Int} (h : 0 < m) : pw (bl m - 1) ≤ m := by
  unfold bl
  rw [if_neg (by omega), pw_cast]
  have h0 : m.toNat ≠ 0 := by omega
  have := Nat.log2_self_le h0
  have e : ((m.toNat.log2 : Int) + 1 - 1).toNat = m.toNat.log2 := by omega
  rw [e]
  omega
theorem bl_hi {m : Int} (h : 0 < m) : m < pw (bl m) := by
  unfold bl
  rw [if_neg (by omega), pw_cast]
  have h0 : m.toNat ≠ 0 := by omega
  have := @Nat.lt_log2_self m.toNat
  have e : ((m.toNat.log2 : Int) + 1).toNat = m.toNat.log2 + 1 := by omega
  rw [e]
  omega
theorem bl_hi' {m : Int} (h : 0 ≤ m) : m < pw (bl m) := by
  by_cases q : 0 < m
  · exact bl_hi q
  · have : m = 0 := by omega
    subst this
    decide
theorem bl_unique {m k : Int} (h0 : 1 ≤ k) (h1 : pw (k - 1) ≤ m) (h2 : m < pw k) : bl m = k := by
  have hp := pw_pos (k - 1)
  have hm : 0 < m := by omega
  have a := bl_lo hm
  have b := bl_hi hm
  have c := bl_pos hm
  have := lt_of_pw_lt (a := k - 1) (b := bl m) (by omega) (by omega)
  have := lt_of_pw_lt (a := bl m - 1) (b := k) (by omega) (by omega)
  omega
theorem bl_le {m k : Int} (h : m < pw k) (hk : 0 ≤ k) : bl m ≤ k := by
  by_cases q : 0 < m
  · have a := bl_lo q
    have := lt_of_pw_lt (a := bl m - 1) (b := k) (by have := bl_pos q; omega) (by omega)
    omega
  · unfold bl; rw [if_pos (by omega)]; exact hk
theorem bl_ge {m k : Int} (h : pw k ≤ m) (hk : 0 ≤ k) : k + 1 ≤ bl m := by
  have q : 0 < m := by have := pw_pos k; omega
  have a := bl_hi q
  have := lt_of_pw_lt (a := k) (b := bl m) hk (by omega)
  omega
theorem bl_small {m : Int} (h0 : 0 ≤ m) (h : m < 2) : bl m = m := by
  have : m = 0 ∨ m = 1 := by omega
  rcases this with e | e <;> subst e <;> decide
theorem bl_shift {m s : Int} (_h0 : 0 ≤ m) (hs : 0 ≤ s) (h : 0 < m.fdiv (pw s)) : bl (m.fdiv (pw s)) + s = bl m := by
  obtain ⟨a, b⟩ := fdiv_bounds m (pw_pos s)
  have c := bl_lo h
  have d := bl_hi h
  have e := bl_pos h
  generalize m.fdiv (pw s) = q at *
  refine (bl_unique (by omega) ?_ ?_).symm
  · have e1 : pw (bl q + s - 1) = pw (bl q - 1) * pw s := by
      rw [← pw_add (by omega) hs]; congr 1; omega
    rw [e1]
    have := Int.mul_le_mul_of_nonneg_right c (Int.le_of_lt (pw_pos s))
    omega
  · rw [pw_add (by omega) hs]
    have h3 : (q + 1) * pw s ≤ pw (bl q) * pw s := Int.mul_le_mul_of_nonneg_right (by omega) (Int.le_of_lt (pw_pos s))
    rw [Int.add_mul, Int.one_mul] at h3
    omega

/-! bit_count's loops -/
def P2 (s : Int) : Prop := ∃ k : Nat, s = 2 ^ k
theorem P2.one : P2 1 := ⟨0, rfl⟩
theorem P2.pos {s : Int} (h : P2 s) : 1 ≤ s := by
  obtain ⟨k, e⟩ := h
  have := kbt_pos k
  omega
theorem P2.dbl {s : Int} (h : P2 s) : P2 (s * 2) := by
  obtain ⟨k, e⟩ := h
  exact ⟨k + 1, by rw [Int.pow_succ, e]⟩
theorem P2.half {s : Int} (h : P2 s) : (s = 1 ∧ s.fdiv 2 = 0) ∨ (P2 (s.fdiv 2) ∧ s = 2 * s.fdiv 2) := by
  obtain ⟨k, e⟩ := h
  cases k with
  | zero => left; rw [e]; decide
  | succ n =>
    right
    have e2 : s = 2 ^ n * 2 := by rw [e, Int.pow_succ]
    have : s.fdiv 2 = 2 ^ n := fdiv_eq (by omega) (by omega)
    exact ⟨⟨n, this⟩, by omega⟩

/-- the second loop's word: what is left lies below 2 ^ (2 step) -/
def BcW (m₀ m count step : Int) : Prop := 0 ≤ m ∧ count + bl m = bl m₀ ∧ ((step = 0 ∧ m < 2) ∨ (P2 step ∧ m < pw (2 * step)))
theorem BcW.start {m step : Int} (h0 : 0 ≤ m) (hs : P2 step) (h : ¬ 0 < m.fdiv (pw step)) : BcW m m 0 step := by
  have := hs.pos
  refine ⟨h0, by omega, .inr ⟨hs, ?_⟩⟩
  rw [fdiv_pos_iff h0 (pw_pos _)] at h
  have := pw_le (a := step) (b := 2 * step) (by omega)
  omega
theorem BcW.yes {m₀ m count step : Int} (h : BcW m₀ m count step) (hs : 0 < step) (hp : 0 < m.fdiv (pw step)) : BcW m₀ (m.fdiv (pw step)) (count + step) (step.fdiv 2) := by
  obtain ⟨h0, h1, h2⟩ := h
  rcases h2 with ⟨e, _⟩ | ⟨h2, h3⟩
  · omega
  have e := bl_shift h0 (by omega) hp
  refine ⟨by omega, by omega, ?_⟩
  have hb : m.fdiv (pw step) < pw step := by
    rw [show 2 * step = step + step by omega, pw_add (by omega) (by omega)] at h3
    obtain ⟨a, b⟩ := fdiv_bounds m (pw_pos step)
    by_cases q : m.fdiv (pw step) < pw step
    · exact q
    · have := Int.mul_le_mul_of_nonneg_right (show pw step ≤ m.fdiv (pw step) by omega) (Int.le_of_lt (pw_pos step))
      omega
  rcases h2.half with ⟨e1, e2⟩ | ⟨e1, e2⟩
  · left
    rw [e1] at hb ⊢
    exact ⟨by decide, hb⟩
  · right
    exact ⟨e1, by rw [← e2]; exact hb⟩
theorem BcW.no {m₀ m count step : Int} (h : BcW m₀ m count step) (hs : 0 < step) (hp : ¬ 0 < m.fdiv (pw step)) : BcW m₀ m count (step.fdiv 2) := by
  obtain ⟨h0, h1, h2⟩ := h
  rcases h2 with ⟨e, _⟩ | ⟨h2, h3⟩
  · omega
  refine ⟨by omega, by omega, ?_⟩
  rw [fdiv_pos_iff h0 (pw_pos _)] at hp
  rcases h2.half with ⟨e1, e2⟩ | ⟨e1, e2⟩
  · left
    rw [e1] at hp ⊢
    exact ⟨by decide, by rw [pw_one] at hp; omega⟩
  · right
    exact ⟨e1, by rw [← e2]; omega⟩
theorem BcW.done {m₀ m count step : Int} (h : BcW m₀ m count step) (hs : ¬ 0 < step) : 0 ≤ m ∧ m < 2 ∧ count + m = bl m₀ := by
  obtain ⟨h0, h1, h2⟩ := h
  rcases h2 with ⟨e, h2⟩ | ⟨h2, h3⟩
  · rw [bl_small h0 h2] at h1
    exact ⟨h0, h2, h1⟩
  · have := h2.pos
    omega
theorem BcW.step0 {m₀ m count step : Int} (h : BcW m₀ m count step) : 0 ≤ step := by
  rcases h.2.2 with ⟨e, _⟩ | ⟨e, _⟩
  · omega
  · have := e.pos; omega
theorem bc_less {m step : Int} (h0 : 0 ≤ m) (hs : 1 ≤ step) (hp : 0 < m.fdiv (pw step)) : (m - step * 2).toNat < (m - step).toNat := by
  rw [fdiv_pos_iff h0 (pw_pos _)] at hp
  have := @lt_pw step
  omega

end Mine
namespace Mine

set_option maxRecDepth 100000
set_option maxHeartbeats 8000000

/-- what k_fill and the binders' names need -/
theorem bcs1 {m : Int} (h : 0 ≤ m) : 0 ≤ m ∧ (1:Int) ≤ 1 ∧ P2 1 := ⟨h, by decide, P2.one⟩
theorem bcs2 {m step : Int} (h : 0 ≤ m) (_h1 : 1 ≤ step) (h2 : P2 step) : 0 ≤ m ∧ 1 ≤ step * 2 ∧ P2 (step * 2) := ⟨h, by omega, h2.dbl⟩
theorem bcs3 {m step : Int} (h0 : 0 ≤ m) (h1 : 1 ≤ step) (hs : P2 step) (h : ¬ 0 < m.fdiv (2 ^ step.toNat)) : 0 ≤ step ∧ BcW m m 0 step := ⟨by omega, BcW.start h0 hs h⟩
theorem bcs4 {m₀ m count step : Int} (h : BcW m₀ m count step) (hs : 0 < step) (hp : 0 < m.fdiv (2 ^ step.toNat)) : 0 ≤ step.fdiv 2 ∧ BcW m₀ (m.fdiv (2 ^ step.toNat)) (count + step) (step.fdiv 2) := ⟨(h.yes hs hp).step0, h.yes hs hp⟩
theorem bcs5 {m₀ m count step : Int} (h : BcW m₀ m count step) (hs : 0 < step) (hp : ¬ 0 < m.fdiv (2 ^ step.toNat)) : 0 ≤ step.fdiv 2 ∧ BcW m₀ m count (step.fdiv 2) := ⟨(h.no hs hp).step0, h.no hs hp⟩
theorem bcl1 {m step : Int} (h0 : 0 ≤ m) (hs : 1 ≤ step) (hp : 0 < m.fdiv (2 ^ step.toNat)) : (m - step * 2).toNat < (m - step).toNat := bc_less h0 hs hp
theorem bcl2 {step : Int} (hs : 0 < step) : (step.fdiv 2).toNat < step.toNat := by
  rw [Int.fdiv_eq_ediv_of_nonneg _ (by decide)]
  omega
theorem bce1 {m₀ m count step : Int} (h : BcW m₀ m count step) (hs : ¬ 0 < step) (hm : 0 < m) : count + 1 = bl m₀ := by
  have := h.done hs
  omega
theorem bce2 {m₀ m count step : Int} (h : BcW m₀ m count step) (hs : ¬ 0 < step) (hm : ¬ 0 < m) : count + 0 = bl m₀ := by
  have := h.done hs
  omega
theorem int_post {P : Int} {x : Int} {t : Tok} (h : x = P) : ∃ t', Value.int x t = Value.int P t' := ⟨t, by rw [h]⟩
theorem bc_walk : Seen PySem.Challenge.rw_pb0323_01 hd.heap_39 (∀ (w : World) (mean : ExcName → Option Value) (mg mb : Str → Option Value) (news : List (Addr × Obj)) (m : Int) (tm : Tok), 0 ≤ m → 
    Con w mean mg mb 112 10 100 [.int m tm] news (fun v nx => nx = news ∧ ∃ t, v = .int (bl m) t)) := by
  k_with_none
  k_fill
  unfold Seen
  intro w mean mg mb news m tm hm0 dp un gd cn cs a ccd cl outer A₀ base h₀ L mm s Q E B F X N T hk hd hu hret
  refine wpAny_call ?_
  k_dflt cell_enter
  (k_with "state" => first | exact bcs1 (by assumption) | exact bcs2 (by assumption) (by assumption) (by assumption) | exact bcs3 (by assumption) (by assumption) (by assumption) (by assumption) | exact bcs4 (by assumption) (by assumption) (by assumption) | exact bcs5 (by assumption) (by assumption) (by assumption))
  (k_with "measure" => first | exact bcl1 (by assumption) (by assumption) (by assumption) | exact bcl2 (by assumption))
  (k_with "exec While Compare cons nil" => k_while_given ["m!"] (fun m0 _ m count step => 0 ≤ step ∧ BcW m0 m count step) (fun m0 _ m count step => step.toNat) "m" "count" "step")
  (k_with "exec While Compare cons nil" => k_while_given ["m"] (fun m _ step => 0 ≤ m ∧ 1 ≤ step ∧ P2 step) (fun m _ step => (m - step).toNat) "step")
  k_steps
  all_goals (refine hret _ _ _ _ ⟨rfl, ?_⟩ (by assumption) (by assumption))
  all_goals (first | exact int_post (bce1 (by assumption) (by assumption) (by assumption)) | exact int_post (bce2 (by assumption) (by assumption) (by assumption)))

end Mine
namespace Mine

set_option maxRecDepth 100000
set_option maxHeartbeats 8000000
local macro_rules | `(tactic| k_all) => `(tactic| assumption)
theorem fm_b (a : Int) {b : Int} (h : 0 < b) : 0 ≤ a.fmod b ∧ a.fmod b < b := by
  rw [Int.fmod_eq_emod_of_nonneg _ (Int.le_of_lt h)]
  exact ⟨Int.emod_nonneg _ (by omega), Int.emod_lt_of_pos _ h⟩
theorem fd_b {a b c : Int} (h0 : 0 ≤ a) (h1 : a < c) (h : 0 < b) : 0 ≤ a.fdiv b ∧ a.fdiv b < c := ⟨fdiv_nonneg' h0 h, Int.lt_of_le_of_lt (fdiv_le' h0 h) h1⟩
theorem dg_e1 {x sp most : Int} (hm : 0 < most) (h0 : 0 ≤ sp) (c : Int) (hc : 0 < c) (hc2 : c ≤ 10 ^ 60) : 0 ≤ (x.fmod c).fmod most ∧ (x.fmod c).fmod most < most ∧ 0 ≤ sp + 1 ∧ sp + 1 ≤ sp + 1 ∧ 0 ≤ (x.fmod c).fdiv most ∧ (x.fmod c).fdiv most < 10 ^ 60 := by
  have h1 := fm_b (x.fmod c) hm
  have h2 := fm_b x hc
  have h3 := fd_b h2.1 (Int.lt_of_lt_of_le h2.2 hc2) hm
  exact ⟨h1.1, h1.2, by omega, by omega, h3.1, h3.2⟩
theorem dg_e2 {x sp most : Int} (hm : 0 < most) (h0 : 0 ≤ sp) (hx : 0 ≤ x) (hx1 : x < 10 ^ 60) : 0 ≤ x.fmod most ∧ x.fmod most < most ∧ 0 ≤ sp ∧ sp ≤ sp + 1 ∧ 0 ≤ x.fdiv most ∧ x.fdiv most < 10 ^ 60 := by
  have h1 := fm_b x hm
  have h3 := fd_b hx hx1 hm
  exact ⟨h1.1, h1.2, h0, by omega, h3.1, h3.2⟩
theorem news_tl {h₀ h : Heap} {L : Addr} {q : Addr × Obj} {l : List (Addr × Obj)} (N : News h₀ L h (q :: l)) : News h₀ L h l := fun p hp => N p (.tail _ hp)
abbrev DgPost (p D : Addr) (ws : List Value) (nn n1 : Nat) (rest : List (Addr × Obj)) (sp most : Int) (v : Value) (nx : List (Addr × Obj)) : Prop :=
  ∃ (r sp' hd' : Int) (t t1' t2' : Tok), v = .int r t ∧ nx = (p, listOf [Value.ref D, Value.int sp' t1', Value.int hd' t2'].toArray n1) :: (D, listOf ws.toArray nn) :: rest ∧ 0 ≤ r ∧ r < most ∧ 0 ≤ sp' ∧ sp' ≤ sp + 1 ∧ 0 ≤ hd' ∧ hd' < 10 ^ 60
theorem dg_walk : Seen PySem.Challenge.rw_pb0323_01 hd.heap_39 (∀ (w : World) (mean : ExcName → Option Value) (mg mb : Str → Option Value) (p D : Addr) (ws : List Value) (ns : List Int) (nn n1 : Nat) (sp hld most : Int) (t1 t2 tm : Tok) (rest : List (Addr × Obj)),
    IntsAre ws ns → 0 < ns.length → ns.length < 2 ^ 62 → D ≠ p → (∀ q ∈ rest, q.1 ≠ p) → 0 ≤ sp → sp < 2 ^ 40 → 0 ≤ hld → hld < 10 ^ 60 → 0 < most → most ≤ 2 ^ 20 →
    Con w mean mg mb 155 10 100 [.ref p, .int most tm] ((p, listOf [Value.ref D, Value.int sp t1, Value.int hld t2].toArray n1) :: (D, listOf ws.toArray nn) :: rest) (DgPost p D ws nn n1 rest sp most)) := by
  k_with_none
  k_fill
  unfold Seen
  intro w mean mg mb p D ws ns nn n1 sp hld most t1 t2 tm rest hI hlen0 hlen1 hDp hrest hsp0 hsp1 hhd0 hhd1 hm0 hm1 dp un gd cn cs a ccd cl outer A₀ base h₀ L mm s Q E B F X N T hk hd hu hret
  refine wpAny_call ?_
  k_dflt cell_enter
  k_steps
  all_goals (first
    | (refine' hret _ _ _ _ ⟨_, _, _, _, _, _, rfl, rfl, ?e⟩ (by assumption) (by assumption); case e => exact dg_e2 hm0 hsp0 hhd0 hhd1)
    | (refine' hret _ _ _ _ ⟨_, _, _, _, _, _, rfl, rfl, ?e⟩ (by assumption) (news_tl (by assumption)); case e => exact dg_e1 hm0 hsp0 _ (by decide) (by decide)))

end Mine
namespace Mine

set_option maxRecDepth 100000
set_option maxHeartbeats 8000000
def WdInv (sp0 found cover sp hld : Int) : Prop :=
  0 ≤ found ∧ found < cover ∧ 0 ≤ sp ∧ 0 ≤ hld ∧ hld < 10 ^ 60 ∧ ∃ k : Nat, k ≤ 20 ∧ cover = 2 ^ (20 * k) ∧ sp ≤ sp0 + k

theorem wd_p20 (k : Nat) : (2 : Int) ^ (20 * (k + 1)) = 2 ^ (20 * k) * 1048576 := by
  rw [Nat.mul_add, Int.pow_add]; rfl
theorem wd_start {sp hld : Int} (h0 : 0 ≤ sp) (h1 : 0 ≤ hld) (h2 : hld < 10 ^ 60) : WdInv sp 0 1 sp hld :=
  ⟨by decide, by decide, h0, h1, h2, 0, by decide, by decide, by omega⟩
theorem wd_turn {sp0 found cover sp hld most r sp' hld' : Int} (h : WdInv sp0 found cover sp hld) (hc : cover < most) (hm : most ≤ 2 ^ 400) (h0 : 0 ≤ r) (h1 : r < 1048576) (h2 : 0 ≤ sp') (h3 : sp' ≤ sp + 1) (h4 : 0 ≤ hld') (h5 : hld' < 10 ^ 60) :
    WdInv sp0 (found * 1048576 + r) (cover * 1048576) sp' hld' := by
  obtain ⟨a1, a2, a3, a4, a5, k, a6, a7, a8⟩ := h
  have hk : k < 20 := by
    by_cases q : k < 20
    · exact q
    · have e : k = 20 := by omega
      subst e
      have : cover = 2 ^ 400 := a7
      omega
  exact ⟨by omega, by omega, h2, h4, h5, k + 1, by omega, by rw [wd_p20, a7], by omega⟩
theorem wd_pos {sp0 found cover sp hld : Int} (h : WdInv sp0 found cover sp hld) : 1 ≤ cover := by
  obtain ⟨a1, a2, a3, a4, a5, k, a6, a7, a8⟩ := h
  omega
theorem wd_less {sp0 found cover sp hld most : Int} (h : WdInv sp0 found cover sp hld) (hc : cover < most) : (most - cover * 1048576).toNat < (most - cover).toNat := by
  have := wd_pos h
  omega
theorem wd_sp {sp0 found cover sp hld : Int} (h : WdInv sp0 found cover sp hld) (h1 : sp0 < 2 ^ 39) : sp < 2 ^ 40 := by
  obtain ⟨a1, a2, a3, a4, a5, k, a6, a7, a8⟩ := h
  omega
theorem wd_end {sp0 found cover sp hld most : Int} (h : WdInv sp0 found cover sp hld) (hm : 0 < most) : 0 ≤ found.fmod most ∧ found.fmod most < most ∧ 0 ≤ sp ∧ sp ≤ sp0 + 20 + 1 ∧ 0 ≤ hld ∧ hld < 10 ^ 60 := by
  obtain ⟨a1, a2, a3, a4, a5, k, a6, a7, a8⟩ := h
  have := fm_b found hm
  exact ⟨this.1, this.2, a3, by omega, a4, a5⟩

theorem wd_walk : Seen PySem.Challenge.rw_pb0323_01 hd.heap_39 (∀ (w : World) (mean : ExcName → Option Value) (mg mb : Str → Option Value) (p D : Addr) (ws : List Value) (ns : List Int) (nn n1 : Nat) (sp hld most : Int) (t1 t2 tm : Tok) (rest : List (Addr × Obj)),
    IntsAre ws ns → 0 < ns.length → ns.length < 2 ^ 62 → D ≠ p → (∀ q ∈ rest, q.1 ≠ p) → 0 ≤ sp → sp < 2 ^ 39 → 0 ≤ hld → hld < 10 ^ 60 → 0 < most → most ≤ 2 ^ 400 →
    Con w mean mg mb 162 20 200 [.ref p, .int most tm] ((p, listOf [Value.ref D, Value.int sp t1, Value.int hld t2].toArray n1) :: (D, listOf ws.toArray nn) :: rest) (DgPost p D ws nn n1 rest (sp + 20) most)) := by
  k_with_none
  k_fill
  unfold Seen
  intro w mean mg mb p D ws ns nn n1 sp hld most t1 t2 tm rest hI hlen0 hlen1 hDp hrest hsp0 hsp1 hhd0 hhd1 hm0 hm1 dp un gd cn cs a ccd cl outer A₀ base h₀ L mm s Q E B F X N T hk hd hu hret
  refine wpAny_call ?_
  k_dflt cell_enter
  (k_with "exec While Compare cons nil" =>
      rename Fr _ _ _ _ => lF'
      rename News _ _ _ _ => lN'
      (with_unfolding_all
       refine' ksw_while (σ := Int × Tok × Int × Tok × Int × Tok × Int × Tok)
        (fun c => (p, listOf [Value.ref D, Value.int c.2.2.2.2.1 c.2.2.2.2.2.1, Value.int c.2.2.2.2.2.2.1 c.2.2.2.2.2.2.2].toArray n1) :: (D, listOf ws.toArray nn) :: rest)
        (fun c => [(Str.ofString "found", Value.int c.1 c.2.1), (Str.ofString "cover", Value.int c.2.2.1 c.2.2.2.1)])
        (fun _ => True) [] (fun c => WdInv sp c.1 c.2.2.1 c.2.2.2.2.1 c.2.2.2.2.2.2.1) (fun c => (most - c.2.2.1).toNat) (0, _, 1, _, sp, t1, hld, t2) lF' ?kn ?kf ?kk ?kp ?_)
      (case kn => exact news_tl lN')
      (case kf => trivial)
      (case kk => kst_all)
      (case kp => exact wd_start hsp0 hhd0 hhd1)
      clear lF' lN'
      rintro ⟨found, tfound, cover, tcover, sp', t1', hld', t2'⟩ kU kH kTk kFacts kInv kFr kNews
      have kMark := kstMark
      dsimp only [kstB] at kFr kNews kInv
      (try k_fold))
  (k_with "call ref" =>
      (with_reducible show wpAny _ _ (call (Value.ref 155) _) _ _ _)
      rename WdInv _ _ _ _ _ => hW
      have hW' := hW
      obtain ⟨a1, a2, a3, a4, a5, _⟩ := hW'
      k_dflt
       refine' con_use0 (dg_walk w mean mg mb p D ws ns nn n1 _ _ _ _ _ _ rest hI hlen0 hlen1 hDp hrest a3 (wd_sp hW hsp1) a4 a5 (by decide) (by decide)) ?k1 ?k2 ?k3 ?k4 ?k5 ?kK ?kd ?ku ?_
      (case k1 => k_asm)
      (case k2 => k_asm)
      (case k3 => k_asm)
      (case k4 => k_asm)
      (case k5 => k_asm)
      (case kK => first | exact rfl | assumption)
      (case kd => ktr_room)
      (case ku => ktr_units)
      rintro v9 nx9 h9 tk9 ⟨r9, sp9, hld9, t9, t19, t29, rfl, rfl, b1, b2, b3, b4, b5, b6⟩ F9 N9
      (try dsimp only)
      (try k_fold))
  (k_with "state" => exact wd_turn (by assumption) (by assumption) hm1 (by assumption) (by assumption) (by assumption) (by assumption) (by assumption) (by assumption))
  (k_with "measure" => exact wd_less (by assumption) (by assumption))
  k_steps
  all_goals (refine' hret _ _ _ _ ⟨_, _, _, _, _, _, rfl, rfl, ?e⟩ (by assumption) (by assumption); case e => exact wd_end (by assumption) hm0)

end Mine
namespace Mine

set_option maxRecDepth 100000
set_option maxHeartbeats 8000000

/-- one step of Newton's, on whole numbers -/
theorem nwt {n g q b : Int} (hg : 1 ≤ g) (hq : q = n.fdiv g) (hb : b = (g + q).fdiv 2) : n < (b + 1) * (b + 1) := by
  obtain ⟨h1, h2⟩ := fdiv_bounds n (show 0 < g by omega)
  obtain ⟨h3, h4⟩ := fdiv_bounds (g + q) (show (0:Int) < 2 by decide)
  rw [← hq] at h1 h2
  rw [← hb] at h3 h4
  have h5 : g + (q + 1) ≤ 2 * (b + 1) := by omega
  have h6 : 0 ≤ (g - (q + 1)) * (g - (q + 1)) := by
    rcases Int.le_total 0 (g - (q + 1)) with h | h
    · exact Int.mul_nonneg h h
    · exact Int.mul_nonneg_of_nonpos_of_nonpos h h
  by_cases hs : 0 ≤ g + (q + 1)
  · have h7 : (g + (q + 1)) * (g + (q + 1)) ≤ (2 * (b + 1)) * (2 * (b + 1)) := Int.mul_le_mul h5 h5 hs (by omega)
    grind
  · have : n < 0 := by
      have h8 : (q + 1) * g ≤ 0 := Int.mul_nonpos_of_nonpos_of_nonneg (by omega) (by omega)
      grind
    have h9 : 0 ≤ (b + 1) * (b + 1) := by
      rcases Int.le_total 0 (b + 1) with h | h
      · exact Int.mul_nonneg h h
      · exact Int.mul_nonneg_of_nonpos_of_nonpos h h
    omega
def WrInv (n g b : Int) : Prop := 1 ≤ g ∧ n < (g + 1) * (g + 1) ∧ b = (g + n.fdiv g).fdiv 2 ∧ g.natAbs.log2 < 9000
theorem log_pw {g k : Int} (h0 : 0 ≤ g) (h1 : g ≤ pw k) (hk : k < 8999) : g.natAbs.log2 < 9000 := by
  by_cases h : g.natAbs = 0
  · rw [h]; decide
  · refine (Nat.log2_lt h).mpr ?_
    have e : pw k ≤ pw 8999 := pw_le (by omega)
    have e2 : pw 8999 < pw 9000 := pw_lt (by decide) (by decide)
    rw [pw_cast 9000] at e2
    have e3 : (9000 : Int).toNat = 9000 := rfl
    rw [e3] at e2
    generalize 2 ^ 9000 = z at e2 ⊢
    omega
theorem wr_g0 {n : Int} (h0 : 0 ≤ n) (h1 : n < pw 4000) : 0 ≤ (bl n + 1).fdiv 2 ∧ (bl n + 1).fdiv 2 ≤ 2001 ∧ bl n ≤ 2 * (bl n + 1).fdiv 2 := by
  have := bl_nonneg n
  have := bl_le h1 (by decide)
  obtain ⟨h3, h4⟩ := fdiv_bounds (bl n + 1) (show (0:Int) < 2 by decide)
  omega
theorem wr_start {n : Int} (h0 : 0 ≤ n) (h1 : n < pw 4000) (_hne : n ≠ 0) {g : Int} (hg : g = 1 * 2 ^ ((bl n + 1).fdiv 2).toNat) :
    WrInv n g ((g + n.fdiv g).fdiv 2) := by
  obtain ⟨a, b, c⟩ := wr_g0 h0 h1
  have hg' : g = pw ((bl n + 1).fdiv 2) := by rw [hg, Int.one_mul]; rfl
  have hp := pw_pos ((bl n + 1).fdiv 2)
  refine ⟨by omega, ?_, rfl, log_pw (by omega) (Int.le_of_eq hg') (by omega)⟩
  have e1 := bl_hi' h0
  have e2 := pw_le c
  rw [show 2 * (bl n + 1).fdiv 2 = (bl n + 1).fdiv 2 + (bl n + 1).fdiv 2 by omega, pw_add a a, ← hg'] at e2
  have : (g + 1) * (g + 1) = g * g + 2 * g + 1 := by grind
  omega
theorem log_le {a b : Int} (_h0 : 0 ≤ a) (h : a ≤ b) (hb : b.natAbs.log2 < 9000) : a.natAbs.log2 < 9000 := by
  by_cases e : a.natAbs = 0
  · rw [e]; decide
  · rw [Nat.log2_lt e]
    exact Nat.lt_of_le_of_lt (by omega) ((Nat.log2_lt (by omega)).mp hb)
theorem wr_turn {n g b : Int} (h : WrInv n g b) (hn : 0 ≤ n) (hne : n ≠ 0) (hb : b < g) : WrInv n b ((b + n.fdiv b).fdiv 2) := by
  obtain ⟨a1, a2, a3, a4⟩ := h
  have h1 := nwt (n := n) (g := g) (b := b) a1 rfl a3
  have h2 : 1 ≤ b := by
    have : 0 ≤ n.fdiv g := fdiv_nonneg' hn (by omega)
    obtain ⟨h3, h4⟩ := fdiv_bounds (g + n.fdiv g) (show (0:Int) < 2 by decide)
    rw [← a3] at h3 h4
    by_cases q : b = 0
    · subst q
      omega
    · omega
  exact ⟨h2, h1, rfl, log_le (by omega) (by omega) a4⟩
theorem wr_g {n g b : Int} (h : WrInv n g b) : g ≠ 0 ∧ g.natAbs.log2 < 9000 := ⟨by have := h.1; omega, h.2.2.2⟩
theorem wr_less {n g b : Int} (h : WrInv n g b) (hb : b < g) : b.toNat < g.toNat := by
  have := h.1
  omega
def IsRoot (n r : Int) : Prop := 0 ≤ r ∧ r * r ≤ n ∧ n < (r + 1) * (r + 1)
theorem wr_end {n g b : Int} (h : WrInv n g b) (hb : ¬ b < g) : IsRoot n g := by
  obtain ⟨a1, a2, a3, a4⟩ := h
  refine ⟨by omega, ?_, a2⟩
  obtain ⟨h1, h2⟩ := fdiv_bounds n (show 0 < g by omega)
  obtain ⟨h3, h4⟩ := fdiv_bounds (g + n.fdiv g) (show (0:Int) < 2 by decide)
  rw [← a3] at h3 h4
  have h5 : g ≤ n.fdiv g := by omega
  have := Int.mul_le_mul_of_nonneg_right h5 (show 0 ≤ g by omega)
  omega
theorem wr_post {n x : Int} {t : Tok} {news : List (Addr × Obj)} (h : IsRoot n x) : news = news ∧ ∃ r t', Value.int x t = Value.int r t' ∧ IsRoot n r := ⟨rfl, x, t, rfl, h⟩
theorem wr_zero {n : Int} (h : n = 0) : IsRoot n 0 := by subst h; unfold IsRoot; decide
theorem wr_walk : Seen PySem.Challenge.rw_pb0323_01 hd.heap_39 (∀ (w : World) (mean : ExcName → Option Value) (mg mb : Str → Option Value) (news : List (Addr × Obj)) (n : Int) (tn : Tok), 0 ≤ n → n < pw 4000 →
    Con w mean mg mb 134 20 200 [.int n tn] news (fun v nx => nx = news ∧ ∃ r t, v = .int r t ∧ IsRoot n r)) := by
  k_with_none
  k_fill
  unfold Seen
  intro w mean mg mb news n tn hn0 hn1 dp un gd cn cs a ccd cl outer A₀ base h₀ L mm s Q E B F X N T hk hd hu hret
  have hg0 := wr_g0 hn0 hn1
  obtain ⟨hg1, hg2, hg3⟩ := hg0
  refine wpAny_call ?_
  k_dflt cell_enter
  (k_with "call ref" =>
      (with_reducible show wpAny _ _ (call (Value.ref 112) _) _ _ _)
      k_dflt
       refine' con_use0 (bc_walk w mean mg mb _ _ _ ?kp) ?k1 ?k2 ?k3 ?k4 ?k5 ?kK ?kd ?ku ?_
      (case kp => assumption)
      (case k1 => k_asm)
      (case k2 => k_asm)
      (case k3 => k_asm)
      (case k4 => k_asm)
      (case k5 => k_asm)
      (case kK => first | exact rfl | assumption)
      (case kd => ktr_room)
      (case ku => ktr_units)
      rintro v9 nx9 h9 tk9 ⟨rfl, t9, rfl⟩ F9 N9
      (try dsimp only)
      (try k_fold))
  (k_with "binaryOp FloorDiv int int" =>
      first
      | (with_reducible refine floordiv_int ?kw1 ?_ (Or.inl (PyProof.noPylong_of_log2 ?kw2))
         (case kw1 => exact (wr_g (by assumption)).1)
         (case kw2 => exact (wr_g (by assumption)).2))
      | (with_reducible refine floordiv_int ?kw1 ?_ (Or.inl (PyProof.noPylong_of_log2 ?kw2))
         (case kw1 => exact (wr_g (wr_start hn0 hn1 (by assumption) rfl)).1)
         (case kw2 => exact (wr_g (wr_start hn0 hn1 (by assumption) rfl)).2))
      | (with_reducible refine floordiv_int ?kw1 ?_ (Or.inl (PyProof.noPylong_of_log2 ?kw2))
         (case kw1 => exact (wr_g (wr_turn (by assumption) hn0 (by assumption) (by assumption))).1)
         (case kw2 => exact (wr_g (wr_turn (by assumption) hn0 (by assumption) (by assumption))).2)))
  (k_with "state" => first | exact wr_start hn0 hn1 (by assumption) rfl | exact wr_turn (by assumption) hn0 (by assumption) (by assumption))
  (k_with "measure" => exact wr_less (by assumption) (by assumption))
  (k_with "exec While Compare cons nil" => k_while_given ["n"] (fun n _ guess better => WrInv n guess better) (fun n _ guess better => guess.toNat) "guess" "better")
  k_steps
  all_goals (refine hret _ _ _ _ ?_ (by assumption) (by assumption))
  all_goals (first | exact wr_post (wr_end (by assumption) (by assumption)) | exact wr_post (wr_zero (by assumption)))

end Mine
namespace Mine

set_option maxRecDepth 100000
set_option maxHeartbeats 8000000

/-- round_shift's value -/
def rs (m sh : Int) (rest : Bool) : Int :=
  if sh ≤ 0 then m * pw (0 - sh)
  else if m - m.fdiv (pw sh) * pw sh > pw (sh - 1) ∨ (m - m.fdiv (pw sh) * pw sh = pw (sh - 1) ∧ (rest = true ∨ (m.fdiv (pw sh)).fmod 2 = 1)) then m.fdiv (pw sh) + 1
  else m.fdiv (pw sh)
theorem rs_a {m sh : Int} {rest : Bool} (h : sh ≤ 0) : m * 2 ^ (0 - sh).toNat = rs m sh rest := by
  unfold rs; rw [if_pos h]; rfl
theorem rs_b {m sh : Int} {rest : Bool} (h : ¬ sh ≤ 0) (h1 : 1 * 2 ^ (sh - 1).toNat < m - m.fdiv (2 ^ sh.toNat) * 2 ^ sh.toNat) : m.fdiv (2 ^ sh.toNat) + 1 = rs m sh rest := by
  rw [Int.one_mul] at h1
  unfold rs; rw [if_neg h, if_pos (Or.inl (show m - m.fdiv (pw sh) * pw sh > pw (sh - 1) from h1))]; rfl
theorem rs_c {m sh : Int} {rest : Bool} (h : ¬ sh ≤ 0) (h1 : m - m.fdiv (2 ^ sh.toNat) * 2 ^ sh.toNat = 1 * 2 ^ (sh - 1).toNat) (h2 : rest = true) : m.fdiv (2 ^ sh.toNat) + 1 = rs m sh rest := by
  rw [Int.one_mul] at h1
  unfold rs; rw [if_neg h, if_pos (Or.inr ⟨h1, Or.inl h2⟩)]; rfl
theorem rs_d {m sh : Int} {rest : Bool} (h : ¬ sh ≤ 0) (h1 : m - m.fdiv (2 ^ sh.toNat) * 2 ^ sh.toNat = 1 * 2 ^ (sh - 1).toNat) (h2 : (m.fdiv (2 ^ sh.toNat)).fmod 2 = 1) : m.fdiv (2 ^ sh.toNat) + 1 = rs m sh rest := by
  rw [Int.one_mul] at h1
  unfold rs; rw [if_neg h, if_pos (Or.inr ⟨h1, Or.inr h2⟩)]; rfl
theorem rs_e {m sh : Int} {rest : Bool} (h : ¬ sh ≤ 0) (h0 : ¬ 1 * 2 ^ (sh - 1).toNat < m - m.fdiv (2 ^ sh.toNat) * 2 ^ sh.toNat) (h2 : rest = false) (h3 : (m.fdiv (2 ^ sh.toNat)).fmod 2 ≠ 1) : m.fdiv (2 ^ sh.toNat) = rs m sh rest := by
  rw [Int.one_mul] at h0
  subst h2
  unfold rs; rw [if_neg h, if_neg]; rfl
  rintro (q | ⟨_, q | q⟩)
  · exact h0 q
  · cases q
  · exact h3 q
theorem rs_f {m sh : Int} {rest : Bool} (h : ¬ sh ≤ 0) (h0 : ¬ 1 * 2 ^ (sh - 1).toNat < m - m.fdiv (2 ^ sh.toNat) * 2 ^ sh.toNat) (h1 : m - m.fdiv (2 ^ sh.toNat) * 2 ^ sh.toNat ≠ 1 * 2 ^ (sh - 1).toNat) : m.fdiv (2 ^ sh.toNat) = rs m sh rest := by
  rw [Int.one_mul] at h0 h1
  unfold rs; rw [if_neg h, if_neg]; rfl
  rintro (q | ⟨q, _⟩)
  · exact h0 q
  · exact h1 q
theorem rs_walk : Seen PySem.Challenge.rw_pb0323_01 hd.heap_39 (∀ (w : World) (mean : ExcName → Option Value) (mg mb : Str → Option Value) (news : List (Addr × Obj)) (m sh : Int) (tm ts : Tok) (rest : Bool), 0 ≤ m → m < 2 ^ 64 → -1000 ≤ sh → sh ≤ 1000 →
    Con w mean mg mb 119 10 100 [.int m tm, .int sh ts, .bool rest] news (fun v nx => nx = news ∧ ∃ t, v = .int (rs m sh rest) t)) := by
  k_with_none
  k_fill
  unfold Seen
  intro w mean mg mb news m sh tm ts rest hm0 hm1 hs0 hs1 dp un gd cn cs a ccd cl outer A₀ base h₀ L mm s Q E B F X N T hk hd hu hret
  refine wpAny_call ?_
  k_dflt cell_enter
  k_steps
  all_goals (refine hret _ _ _ _ ⟨rfl, ?_⟩ (by assumption) (by assumption))
  all_goals (first | exact int_post (rs_a (by assumption)) | exact int_post (rs_b (by assumption) (by assumption)) | exact int_post (rs_c (by assumption) (by assumption) (by assumption)) | exact int_post (rs_d (by assumption) (by assumption) (by assumption)) | exact int_post (rs_e (by assumption) (by assumption) (by assumption) (by assumption)) | exact int_post (rs_f (by assumption) (by assumption) (by assumption)))

end Mine
namespace Mine
local macro_rules | `(tactic| k_room) => `(tactic| ktr_room)

set_option maxRecDepth 100000
set_option maxHeartbeats 8000000

/-- a form's dict, written out -/
abbrev FD (w : World) (k1 k2 k3 k4 k5 k6 t1 t2 t3 t4 t5 t6 : Tok) (E F B T H M : Int) (n : Nat) : Obj := dictOf
  [{ hash := PyData.keyHash w.params (Str.ofString "exponent_bits"), key := Value.str (Str.ofString "exponent_bits") k1, val := Value.int E t1 },
   { hash := PyData.keyHash w.params (Str.ofString "fraction_bits"), key := Value.str (Str.ofString "fraction_bits") k2, val := Value.int F t2 },
   { hash := PyData.keyHash w.params (Str.ofString "bias"), key := Value.str (Str.ofString "bias") k3, val := Value.int B t3 },
   { hash := PyData.keyHash w.params (Str.ofString "top"), key := Value.str (Str.ofString "top") k4, val := Value.int T t4 },
   { hash := PyData.keyHash w.params (Str.ofString "hidden"), key := Value.str (Str.ofString "hidden") k5, val := Value.int H t5 },
   { hash := PyData.keyHash w.params (Str.ofString "least"), key := Value.str (Str.ofString "least") k6, val := Value.int M t6 }] n
structure FormOk (E F T H M : Int) : Prop where
  e0 : 2 ≤ E
  e1 : E ≤ 8
  f0 : 1 ≤ F
  f1 : F ≤ 23
  t : T = pw E - 1
  h : H = pw F
  m : M = 2 - pw (E - 1) - F
theorem FormOk.bounds {E F T H M : Int} (h : FormOk E F T H M) : 3 ≤ T ∧ T ≤ 255 ∧ 2 ≤ H ∧ H ≤ 8388608 ∧ -149 ≤ M ∧ M ≤ -1 ∧ H.natAbs < 2 ^ 64 := by
  obtain ⟨a, b, c, d, e, f, g⟩ := h
  have h1 := pw_le (a := 2) (b := E) a
  have h2 := pw_le (a := E) (b := 8) b
  have h3 := pw_le (a := 1) (b := F) c
  have h4 := pw_le (a := F) (b := 23) d
  have h5 := pw_le (a := 1) (b := E - 1) (by omega)
  have h6 := pw_le (a := E - 1) (b := 7) (by omega)
  have e1 : pw 2 = 4 := rfl
  have e2 : pw 8 = 256 := rfl
  have e3 : pw 1 = 2 := rfl
  have e4 : pw 23 = 8388608 := by decide
  have e5 : pw 7 = 128 := rfl
  omega
/-- the ledger bears at x the form of E bits of exponent and F of fraction -/
def IsForm (w : World) (news : List (Addr × Obj)) (x : Addr) (E F T H M : Int) : Prop :=
  FormOk E F T H M ∧ ∃ (dx : Addr) (k1 k2 k3 k4 k5 k6 t1 t2 t3 t4 t5 t6 : Tok) (B : Int) (n : Nat), (x, instObj 31 dx) ∈ news ∧ (dx, FD w k1 k2 k3 k4 k5 k6 t1 t2 t3 t4 t5 t6 E F B T H M n) ∈ news
theorem IsForm.mono {w : World} {news news' : List (Addr × Obj)} {x : Addr} {E F T H M : Int} (h : IsForm w news x E F T H M) (hs : ∀ p ∈ news, p ∈ news') : IsForm w news' x E F T H M := by
  obtain ⟨o, dx, k1, k2, k3, k4, k5, k6, t1, t2, t3, t4, t5, t6, B, n, h1, h2⟩ := h
  exact ⟨o, dx, k1, k2, k3, k4, k5, k6, t1, t2, t3, t4, t5, t6, B, n, hs _ h1, hs _ h2⟩
theorem news_cons {h₀ h : Heap} {L : Addr} {p : Addr × Obj} {l : List (Addr × Obj)} (N : News h₀ L h l) (hp : p ∈ l) : News h₀ L h (p :: l) := fun q hq => by
  rcases List.mem_cons.mp hq with rfl | hq
  · exact N _ hp
  · exact N _ hq

def pk3 (T H M place kept : Int) : Int := if kept < H then kept else if T ≤ place - M + 1 then T * H else (place - M + 1) * H + (kept - H)
def pk2 (T H M place kept : Int) : Int := if kept = 2 * H then pk3 T H M (place + 1) H else pk3 T H M place kept
def pk (F T H M m e : Int) (rest : Bool) : Int :=
  if m = 0 then 0 else pk2 T H M (if M > e + bl m - F - 1 then M else e + bl m - F - 1) (rs m ((if M > e + bl m - F - 1 then M else e + bl m - F - 1) - e) rest)
theorem pk_z {F T H M m e X : Int} {rest : Bool} (h : m = 0) : (0 * X + 0) * H + 0 = pk F T H M m e rest := by
  unfold pk; rw [if_pos h]; simp
theorem pk_n {F T H M m e x : Int} {rest : Bool} (h : m ≠ 0) (hx : x = pk2 T H M (if M > e + bl m - F - 1 then M else e + bl m - F - 1) (rs m ((if M > e + bl m - F - 1 then M else e + bl m - F - 1) - e) rest)) : x = pk F T H M m e rest := by
  unfold pk; rw [if_neg h, hx]
theorem pk_1 {T H M p k X : Int} (h : k = H * 2 ^ Int.toNat 1) (h1 : T ≤ p + 1 - M + 1) : (0 * X + T) * H + 0 = pk2 T H M p k := by
  have e : H * 2 ^ Int.toNat 1 = 2 * H := by rw [Int.mul_comm]; rfl
  unfold pk2 pk3
  rw [if_pos (h.trans e), if_neg (by omega), if_pos h1]; simp
theorem pk_2 {T H M p k X : Int} (h : k = H * 2 ^ Int.toNat 1) (h1 : ¬ T ≤ p + 1 - M + 1) : (0 * X + (p + 1 - M + 1)) * H + (H - H) = pk2 T H M p k := by
  have e : H * 2 ^ Int.toNat 1 = 2 * H := by rw [Int.mul_comm]; rfl
  unfold pk2 pk3
  rw [if_pos (h.trans e), if_neg (by omega), if_neg h1]; simp
theorem pk_3 {T H M p k X : Int} (h : k ≠ H * 2 ^ Int.toNat 1) (h1 : k < H) : (0 * X + 0) * H + k = pk2 T H M p k := by
  have e : H * 2 ^ Int.toNat 1 = 2 * H := by rw [Int.mul_comm]; rfl
  rw [e] at h
  unfold pk2 pk3
  rw [if_neg h, if_pos h1]; simp
theorem pk_4 {T H M p k X : Int} (h : k ≠ H * 2 ^ Int.toNat 1) (h1 : ¬ k < H) (h2 : T ≤ p - M + 1) : (0 * X + T) * H + 0 = pk2 T H M p k := by
  have e : H * 2 ^ Int.toNat 1 = 2 * H := by rw [Int.mul_comm]; rfl
  rw [e] at h
  unfold pk2 pk3
  rw [if_neg h, if_neg h1, if_pos h2]; simp
theorem pk_5 {T H M p k X : Int} (h : k ≠ H * 2 ^ Int.toNat 1) (h1 : ¬ k < H) (h2 : ¬ T ≤ p - M + 1) : (0 * X + (p - M + 1)) * H + (k - H) = pk2 T H M p k := by
  have e : H * 2 ^ Int.toNat 1 = 2 * H := by rw [Int.mul_comm]; rfl
  rw [e] at h
  unfold pk2 pk3
  rw [if_neg h, if_neg h1, if_neg h2]; simp
theorem news_tl2 {h₀ h : Heap} {L : Addr} {q r : Addr × Obj} {l : List (Addr × Obj)} (N : News h₀ L h (q :: r :: l)) : News h₀ L h l := fun p hp => N p (.tail _ (.tail _ hp))

theorem bl_b {m : Int} (_h0 : 0 ≤ m) (h1 : m < 2 ^ 64) : 0 ≤ bl m ∧ bl m ≤ 64 := ⟨bl_nonneg m, bl_le (k := 64) h1 (by decide)⟩

theorem jf_walk : Seen PySem.Challenge.rw_pb0323_01 hd.heap_39 (∀ (w : World) (mean : ExcName → Option Value) (mg mb : Str → Option Value) (news : List (Addr × Obj)) (x : Addr) (E F T H M ex fr : Int) (ts tx tf : Tok),
    IsForm w news x E F T H M →
    Con w mean mg mb 42 5 50 [.ref x, .int 0 ts, .int ex tx, .int fr tf] news (fun v nx => nx = news ∧ ∃ t, v = .int ((0 * 2 ^ E.toNat + ex) * H + fr) t)) := by
  k_with_none
  k_fill
  unfold Seen
  intro w mean mg mb news₀ x E F T H M ex fr ts tx tf hF dp un' gd cn cs a ccd cl outer A₀ base h₀ L mm s Q E' B F' X N T' hk hd hu hret
  obtain ⟨ok, dx, k1, k2, k3, k4, k5, k6, t1, t2, t3, t4, t5, t6, B', n₀, hx, hdx⟩ := hF
  obtain ⟨b1, b2, b3, b4, b5, b6, b7⟩ := ok.bounds
  have N := news_cons (news_cons N hdx) (List.mem_cons_of_mem _ hx)
  have hF9 : IsForm w [(x, instObj 31 dx), (dx, FD w k1 k2 k3 k4 k5 k6 t1 t2 t3 t4 t5 t6 E F B' T H M n₀)] x E F T H M := ⟨ok, dx, k1, k2, k3, k4, k5, k6, t1, t2, t3, t4, t5, t6, B', n₀, .head _, .tail _ (.head _)⟩
  obtain ⟨e0, e1, f0, f1, eT, eH, eM⟩ := ok
  refine wpAny_call ?_
  k_dflt cell_enter
  k_steps
  all_goals (refine hret _ _ _ _ ⟨rfl, _, rfl⟩ (by assumption) (news_tl (news_tl (by assumption))))
theorem nn_walk : Seen PySem.Challenge.rw_pb0323_01 hd.heap_39 (∀ (w : World) (mean : ExcName → Option Value) (mg mb : Str → Option Value) (news : List (Addr × Obj)) (x : Addr) (E F T H M : Int),
    IsForm w news x E F T H M →
    Con w mean mg mb 63 15 150 [.ref x] news (fun v nx => nx = news ∧ ∃ t, v = .int ((0 * 2 ^ E.toNat + T) * H + H.fdiv (2 ^ Int.toNat 1)) t)) := by
  k_with_none
  k_fill
  unfold Seen
  intro w mean mg mb news₀ x E F T H M hF dp un' gd cn cs a ccd cl outer A₀ base h₀ L mm s Q E' B F' X N T' hk hd hu hret
  obtain ⟨ok, dx, k1, k2, k3, k4, k5, k6, t1, t2, t3, t4, t5, t6, B', n₀, hx, hdx⟩ := hF
  obtain ⟨b1, b2, b3, b4, b5, b6, b7⟩ := ok.bounds
  have N := news_cons (news_cons N hdx) (List.mem_cons_of_mem _ hx)
  have hF9 : IsForm w [(x, instObj 31 dx), (dx, FD w k1 k2 k3 k4 k5 k6 t1 t2 t3 t4 t5 t6 E F B' T H M n₀)] x E F T H M := ⟨ok, dx, k1, k2, k3, k4, k5, k6, t1, t2, t3, t4, t5, t6, B', n₀, .head _, .tail _ (.head _)⟩
  obtain ⟨e0, e1, f0, f1, eT, eH, eM⟩ := ok
  refine wpAny_call ?_
  k_dflt cell_enter
  (k_with "call ref" =>
      (with_reducible show wpAny _ _ (call (Value.ref 42) _) _ _ _)
      k_dflt
       refine' con_use0 (jf_walk w mean mg mb _ x E F T H M _ _ _ _ _ ?kp) ?k1 ?k2 ?k3 ?k4 ?k5 ?kK ?kd ?ku ?_
      (case k1 => k_asm)
      (case k2 => k_asm)
      (case k3 => k_asm)
      (case k4 => k_asm)
      (case kp => exact hF9.mono (by kcj_all))
      (case k5 => k_asm)
      (case kK => first | exact rfl | assumption)
      (case kd => ktr_room)
      (case ku => ktr_units)
      rintro v9 nx9 h9 tk9 ⟨rfl, t9, rfl⟩ F9 N9
      (try dsimp only)
      (try k_fold))
  k_steps
  all_goals (refine hret _ _ _ _ ⟨rfl, _, rfl⟩ (by assumption) (news_tl (news_tl (by assumption))))
theorem pk_walk : Seen PySem.Challenge.rw_pb0323_01 hd.heap_39 (∀ (w : World) (mean : ExcName → Option Value) (mg mb : Str → Option Value) (news : List (Addr × Obj)) (x : Addr) (E F T H M m e : Int) (ts tm te : Tok) (rest : Bool) (vs : List Value), (vs = [.ref x, .int 0 ts, .int m tm, .int e te, .bool rest] ∨ (rest = false ∧ vs = [.ref x, .int 0 ts, .int m tm, .int e te])) →
    IsForm w news x E F T H M → 0 ≤ m → m < 2 ^ 64 → -400 ≤ e → e ≤ 400 →
    Con w mean mg mb 127 20 200 vs news (fun v nx => nx = news ∧ ∃ t, v = .int (pk F T H M m e rest) t)) := by
  k_with_none
  k_fill
  unfold Seen
  intro w mean mg mb news₀ x E F T H M m e ts tm te rest vs hv hF hm0 hm1 he0 he1 dp un gd cn cs a ccd cl outer A₀ base h₀ L mm s Q E' B F' X N T' hk hd hu hret
  have hF9 := hF
  obtain ⟨ok, dx, k1, k2, k3, k4, k5, k6, t1, t2, t3, t4, t5, t6, B', n, hx, hdx⟩ := hF
  obtain ⟨b1, b2, b3, b4, b5, b6, b7⟩ := ok.bounds
  obtain ⟨e0, e1, f0, f1, eT, eH, eM⟩ := ok
  have N := news_cons (news_cons N hdx) (List.mem_cons_of_mem _ hx)
  obtain ⟨hb0, hb1⟩ := bl_b hm0 hm1
  refine wpAny_call ?_
  k_dflt (refine' code_def (binds := [(Str.ofString "form", Value.ref x), (Str.ofString "sign", Value.int 0 ts), (Str.ofString "m", Value.int m tm), (Str.ofString "e", Value.int e te), (Str.ofString "rest", Value.bool rest)]) ?k1 ?k2 ?k3 ?k4 ?k5 ?kA ?kF ?kK ?k6 ?k7 ?k8 ?k9 ?kB ?_ ?c2 ?c3 ?c4 ?c5; (case kA => exact rfl); (case kF => exact rfl); (case kK => assumption); (case k1 => k_asm); (case k2 => k_asm); (case k3 => k_asm); (case k4 => k_asm); (case k5 => k_asm); (case k6 => k_is); (case k7 => k_is); (case k8 => ktr_room); (case k9 => (rcases hv with hv | ⟨hv0, hv⟩ <;> subst hv <;> (try subst hv0) <;> exact binds_K (by k_in) rfl (by k_is) rfl rfl rfl)); (case c5 => decide); (case kB => exact locs rfl); (case c2 => exact rfl); (case c3 => exact rfl); (case c4 => exact rfl); k_whole; intro g' L' h' FG' F' N' B' X' T'; (try dsimp only); (try k_lift B'); (try k_fold))
  (k_with "call ref" =>
      (with_reducible show wpAny _ _ (call (Value.ref 112) _) _ _ _)
      k_dflt
       refine' con_use0 (bc_walk w mean mg mb _ _ _ ?kp) ?k1 ?k2 ?k3 ?k4 ?k5 ?kK ?kd ?ku ?_
      (case kp => assumption)
      (case k1 => k_asm)
      (case k2 => k_asm)
      (case k3 => k_asm)
      (case k4 => k_asm)
      (case k5 => k_asm)
      (case kK => first | exact rfl | assumption)
      (case kd => ktr_room)
      (case ku => ktr_units)
      rintro v9 nx9 h9 tk9 ⟨rfl, t9, rfl⟩ F9 N9
      (try dsimp only)
      (try k_fold))
  (k_with "call ref" =>
      (with_reducible show wpAny _ _ (call (Value.ref 119) _) _ _ _)
      k_dflt
       refine' con_use0 (rs_walk w mean mg mb _ _ _ _ _ _ ?kp ?kq ?kr ?ks) ?k1 ?k2 ?k3 ?k4 ?k5 ?kK ?kd ?ku ?_
      (case kp => assumption)
      (case kq => assumption)
      (case kr => omega)
      (case ks => omega)
      (case k1 => k_asm)
      (case k2 => k_asm)
      (case k3 => k_asm)
      (case k4 => k_asm)
      (case k5 => k_asm)
      (case kK => first | exact rfl | assumption)
      (case kd => ktr_room)
      (case ku => ktr_units)
      rintro v9 nx9 h9 tk9 ⟨rfl, t9, rfl⟩ F9 N9
      (try dsimp only)
      (try k_fold))
  (k_with "call ref" =>
      (with_reducible show wpAny _ _ (call (Value.ref 42) _) _ _ _)
      k_dflt
       refine' con_use0 (jf_walk w mean mg mb _ x E F T H M _ _ _ _ _ ?kp) ?k1 ?k2 ?k3 ?k4 ?k5 ?kK ?kd ?ku ?_
      (case k1 => k_asm)
      (case k2 => k_asm)
      (case k3 => k_asm)
      (case k4 => k_asm)
      (case kp => exact hF9.mono (fun _ h => .tail _ (.tail _ h)))
      (case k5 => k_asm)
      (case kK => first | exact rfl | assumption)
      (case kd => ktr_room)
      (case ku => ktr_units)
      rintro v9 nx9 h9 tk9 ⟨rfl, t9, rfl⟩ F9 N9
      (try dsimp only)
      (try k_fold))
  k_steps
  all_goals (refine hret _ _ _ _ ⟨rfl, ?_⟩ (by assumption) (news_tl2 (by assumption)))
  all_goals (first | exact int_post (pk_z (by assumption)) | (refine int_post (pk_n (by assumption) ?_); first | exact pk_1 (by assumption) (by assumption) | exact pk_2 (by assumption) (by assumption) | exact pk_3 (by assumption) (by assumption) | exact pk_4 (by assumption) (by assumption) (by assumption) | exact pk_5 (by assumption) (by assumption) (by assumption)))

set_option maxRecDepth 100000
set_option maxHeartbeats 8000000

theorem fi_walk : Seen PySem.Challenge.rw_pb0323_01 hd.heap_39 (∀ (w : World) (mean : ExcName → Option Value) (mg mb : Str → Option Value) (news : List (Addr × Obj)) (x : Addr) (E F T H M n : Int) (tn : Tok),
    IsForm w news x E F T H M → 0 ≤ n → n < 2 ^ 64 →
    Con w mean mg mb 148 30 300 [.ref x, .int n tn] news (fun v nx => nx = news ∧ ∃ t, v = .int (pk F T H M n 0 false) t)) := by
  k_with_none
  k_fill
  unfold Seen
  intro w mean mg mb news₀ x E F T H M n tn hF hn0 hn1 dp un gd cn cs a ccd cl outer A₀ base h₀ L mm s Q E' B F' X N T' hk hd hu hret
  refine wpAny_call ?_
  k_dflt cell_enter
  (k_with "call ref" =>
      (with_reducible show wpAny _ _ (call (Value.ref 127) _) _ _ _)
      k_dflt
       refine' con_use0 (pk_walk w mean mg mb _ x E F T H M _ _ _ _ _ false _ (Or.inr ⟨rfl, rfl⟩) ?kp ?kq ?kr (by decide) (by decide)) ?k1 ?k2 ?k3 ?k4 ?k5 ?kK ?kd ?ku ?_
      (case k1 => k_asm)
      (case k2 => k_asm)
      (case k3 => k_asm)
      (case k4 => k_asm)
      (case kp => exact hF)
      (case kq => assumption)
      (case kr => assumption)
      (case k5 => k_asm)
      (case kK => first | exact rfl | assumption)
      (case kd => ktr_room)
      (case ku => ktr_units)
      rintro v9 nx9 h9 tk9 ⟨rfl, t9, rfl⟩ F9 N9
      (try dsimp only)
      (try k_fold))
  k_steps
  all_goals (refine hret _ _ _ _ ⟨rfl, ?_⟩ (by assumption) (by assumption))
  all_goals (exact ⟨_, rfl⟩)

/-- the law's units of a number -/
def un (F size : Int) : Int := if size.fdiv (2 ^ F.toNat) = 0 then size.fmod (2 ^ F.toNat) else (2 ^ F.toNat + size.fmod (2 ^ F.toNat)) * 2 ^ (size.fdiv (2 ^ F.toNat) - 1).toNat
theorem un_z {F size : Int} (h : size.fdiv (2 ^ F.toNat) = 0) : size.fmod (2 ^ F.toNat) = un F size := by unfold un; rw [if_pos h]
theorem un_n {F size : Int} (h : size.fdiv (2 ^ F.toNat) ≠ 0) : (2 ^ F.toNat + size.fmod (2 ^ F.toNat)) * 2 ^ (size.fdiv (2 ^ F.toNat) - 1).toNat = un F size := by unfold un; rw [if_neg h]
theorem un_b {F z : Int} (h0 : 0 ≤ z) (h1 : (2 : Int) ^ F.toNat ≤ 8388608) (h2 : z.fdiv (2 ^ F.toNat) ≤ 300) : 0 ≤ un F z ∧ un F z < pw 400 := by
  have hp : (0 : Int) < 2 ^ F.toNat := pw_pos F
  have hz := fm_b z hp
  have hq := fdiv_nonneg' h0 hp
  have e : pw 400 = pw 25 * pw 375 := pw_add (a := 25) (b := 375) (by decide) (by decide)
  have e1 : pw 25 = 33554432 := by decide
  have e3 := pw_pos 375
  have e5 : pw 25 ≤ pw 400 := pw_le (by decide)
  unfold un
  split
  · omega
  · have h3 : (2 : Int) ^ (z.fdiv (2 ^ F.toNat) - 1).toNat ≤ pw 375 := pw_le (by omega)
    have h4 : (0 : Int) < 2 ^ (z.fdiv (2 ^ F.toNat) - 1).toNat := pw_pos _
    refine ⟨Int.mul_nonneg (by omega) (Int.le_of_lt h4), ?_⟩
    rw [e]
    exact Int.lt_of_lt_of_le (Int.mul_lt_mul_of_pos_right (show 2 ^ F.toNat + z.fmod (2 ^ F.toNat) < pw 25 by omega) h4) (Int.mul_le_mul_of_nonneg_left h3 (Int.le_of_lt (pw_pos 25)))
theorem un_walk : Seen PySem.Challenge.rw_pb0323_01 hd.heap_39 (∀ (w : World) (mean : ExcName → Option Value) (mg mb : Str → Option Value) (news : List (Addr × Obj)) (x : Addr) (E F T H M size : Int) (tz : Tok),
    IsForm w news x E F T H M → 0 ≤ size → size.fdiv (2 ^ F.toNat) ≤ 300 →
    Con w mean mg mb 169 10 100 [.ref x, .int size tz] news (fun v nx => nx = news ∧ (∃ t, v = .int (un F size) t) ∧ 0 ≤ un F size ∧ un F size < pw 400)) := by
  k_with_none
  k_fill
  unfold Seen
  intro w mean mg mb news₀ x E F T H M size tz hF hz0 hz1 dp un' gd cn cs a ccd cl outer A₀ base h₀ L mm s Q E' B F' X N T' hk hd hu hret
  obtain ⟨ok, dx, k1, k2, k3, k4, k5, k6, t1, t2, t3, t4, t5, t6, B', n₀, hx, hdx⟩ := hF
  obtain ⟨b1, b2, b3, b4, b5, b6, b7⟩ := ok.bounds
  have N := news_cons (news_cons N hdx) (List.mem_cons_of_mem _ hx)
  have hF9 : IsForm w [(x, instObj 31 dx), (dx, FD w k1 k2 k3 k4 k5 k6 t1 t2 t3 t4 t5 t6 E F B' T H M n₀)] x E F T H M := ⟨ok, dx, k1, k2, k3, k4, k5, k6, t1, t2, t3, t4, t5, t6, B', n₀, .head _, .tail _ (.head _)⟩
  obtain ⟨e0, e1, f0, f1, eT, eH, eM⟩ := ok
  have hp : (2 : Int) ^ F.toNat ≤ 8388608 ∧ 0 < (2 : Int) ^ F.toNat := ⟨by rw [eH] at b4; exact b4, pw_pos F⟩
  obtain ⟨hp1, hp2⟩ := hp
  have hz := fm_b size hp2
  have hq := fdiv_nonneg' hz0 hp2
  obtain ⟨hz2, hz3⟩ := hz
  refine wpAny_call ?_
  k_dflt cell_enter
  k_steps
  all_goals (refine hret _ _ _ _ ⟨rfl, ?_, un_b hz0 hp1 hz1⟩ (by assumption) (news_tl2 (by first | assumption | exact news_tl (by assumption))))
  all_goals (first | exact int_post (un_z (by assumption)) | exact int_post (un_n (by assumption)))

set_option maxRecDepth 100000
set_option maxHeartbeats 8000000

theorem intb {a : Int} {k : Nat} (h0 : 0 ≤ a) (h1 : a < pw k) : Builtin.Int.intBits a ≤ k := by
  refine intBits_le ?_
  rw [pw_cast] at h1
  have e : (k : Int).toNat = k := by omega
  rw [e] at h1
  generalize 2 ^ k = z at h1 ⊢
  omega
theorem mulok {a b : Int} (h0 : 0 ≤ a) (h1 : a < pw (1000 : Nat)) (g0 : 0 ≤ b) (g1 : b < pw (1000 : Nat)) : IntMulOk a b := mulOk_of_bits (intb h0 h1) (intb g0 g1) (by decide)
theorem pw_400 : 4 * pw 400 < pw (1000 : Nat) := by
  have e : pw 402 = pw 2 * pw 400 := pw_add (a := 2) (b := 400) (by decide) (by decide)
  have e1 : pw 2 = 4 := rfl
  have e2 : pw 402 < pw (1000 : Nat) := pw_lt (by decide) (by decide)
  rw [e1] at e
  omega
theorem mulok_s {a b : Int} (h0 : 0 ≤ a) (h1 : a < pw 400) (g0 : 0 ≤ b) (g1 : b < pw 400) : IntMulOk (a + b) (a + b) := by
  have := pw_400
  exact mulok (by omega) (by omega) (by omega) (by omega)
theorem mulok_c {a M : Int} (h0 : 0 ≤ a) (h1 : a < pw 400) (g0 : -149 ≤ M) : IntMulOk (4 * a) (2 ^ (0 - M).toNat) := by
  have := pw_400
  have e := pw_le (a := 0 - M) (b := 400) (by omega)
  have e2 := pw_pos 400
  have e3 := pw_pos (0 - M)
  exact mulok (by omega) (by omega) (Int.le_of_lt (pw_pos (0 - M))) (show pw (0 - M) < _ by omega)

/-- what is asked of a root, in the law's own terms -/
def Odd1 (E F bits : Int) : Prop := (2 ^ E.toNat - 1) * 2 ^ F.toNat < bits.fmod (2 ^ (E + F).toNat) ∨ (2 ^ (E + F).toNat ≤ bits ∧ 0 < bits.fmod (2 ^ (E + F).toNat))
def Odd2 (E F bits : Int) : Prop := bits.fmod (2 ^ (E + F).toNat) = 0 ∨ bits.fmod (2 ^ (E + F).toNat) = (2 ^ E.toNat - 1) * 2 ^ F.toNat
structure RootSpec (E F T H M bits found : Int) : Prop where
  pos : 0 ≤ found
  nan : Odd1 E F bits → found = T * H + H.fdiv 2
  own : ¬ Odd1 E F bits → Odd2 E F bits → found = bits
  lt : ¬ Odd1 E F bits → ¬ Odd2 E F bits → found < (2 ^ E.toNat - 1) * 2 ^ F.toNat
  gt : ¬ Odd1 E F bits → ¬ Odd2 E F bits → found ≠ 0
  low : ¬ Odd1 E F bits → ¬ Odd2 E F bits → (un F (found - 1) + un F found) * (un F (found - 1) + un F found) ≤ 4 * un F (bits.fmod (2 ^ (E + F).toNat)) * 2 ^ (0 - M).toNat
  high : ¬ Odd1 E F bits → ¬ Odd2 E F bits → 4 * un F (bits.fmod (2 ^ (E + F).toNat)) * 2 ^ (0 - M).toNat ≤ (un F found + un F (found + 1)) * (un F found + un F (found + 1))
theorem fdv {F z : Int} (hp : 0 < (2 : Int) ^ F.toNat) (h : z ≤ 256 * 2 ^ F.toNat) : z.fdiv (2 ^ F.toNat) ≤ 300 := by
  obtain ⟨h1, h2⟩ := fdiv_bounds z hp
  by_cases q : z.fdiv (2 ^ F.toNat) ≤ 300
  · exact q
  · have := Int.mul_le_mul_of_nonneg_right (show 300 ≤ z.fdiv (2 ^ F.toNat) by omega) (Int.le_of_lt hp)
    omega

theorem no1a {E F bits : Int} (h1 : ¬ (2 ^ E.toNat - 1) * 2 ^ F.toNat < bits.fmod (2 ^ (E + F).toNat)) (h2 : ¬ 2 ^ (E + F).toNat ≤ bits) : ¬ Odd1 E F bits := by
  rintro (h | h)
  · exact h1 h
  · exact h2 h.1
theorem no1b {E F bits : Int} (h1 : ¬ (2 ^ E.toNat - 1) * 2 ^ F.toNat < bits.fmod (2 ^ (E + F).toNat)) (h2 : ¬ 0 < bits.fmod (2 ^ (E + F).toNat)) : ¬ Odd1 E F bits := by
  rintro (h | h)
  · exact h1 h
  · exact h2 h.2
theorem no2 {E F bits : Int} (h1 : bits.fmod (2 ^ (E + F).toNat) ≠ 0) (h2 : bits.fmod (2 ^ (E + F).toNat) ≠ (2 ^ E.toNat - 1) * 2 ^ F.toNat) : ¬ Odd2 E F bits := by
  rintro (h | h)
  · exact h1 h
  · exact h2 h
theorem lr_nan {E F T H M bits found X : Int} (hS : RootSpec E F T H M bits found) (h : Odd1 E F bits) : Value.bool (found == (0 * X + T) * H + H.fdiv (2 ^ Int.toNat 1)) = .bool true := by
  have e := hS.nan h
  have e2 : (2 : Int) ^ Int.toNat 1 = 2 := rfl
  rw [e2, Int.zero_mul, Int.zero_add, ← e]
  simp
theorem lr_own {E F T H M bits found : Int} (hS : RootSpec E F T H M bits found) (h : ¬ Odd1 E F bits) (h2 : Odd2 E F bits) : Value.bool (found == bits) = .bool true := by
  rw [hS.own h h2]
  simp
theorem lr_dec {c : Prop} [Decidable c] (h : c) : Value.bool (decide c) = .bool true := by rw [decide_eq_true h]
theorem lr_walk : Seen PySem.Challenge.rw_pb0323_01 hd.heap_39 (∀ (w : World) (mean : ExcName → Option Value) (mg mb : Str → Option Value) (news : List (Addr × Obj)) (x : Addr) (E F T H M bits found : Int) (tz tf : Tok),
    IsForm w news x E F T H M → 0 ≤ bits → RootSpec E F T H M bits found →
    Con w mean mg mb 176 30 300 [.ref x, .int bits tz, .int found tf] news (fun v nx => nx = news ∧ v = .bool true)) := by
  k_with_none
  k_fill
  unfold Seen
  intro w mean mg mb news₀ x E F T H M bits found tz tf hF hz0 hS dp un' gd cn cs a ccd cl outer A₀ base h₀ L mm s Q E' B F' X N T' hk hd hu hret
  obtain ⟨ok, dx, k1, k2, k3, k4, k5, k6, t1, t2, t3, t4, t5, t6, B', n₀, hx, hdx⟩ := hF
  obtain ⟨b1, b2, b3, b4, b5, b6, b7⟩ := ok.bounds
  have N := news_cons (news_cons N hdx) (List.mem_cons_of_mem _ hx)
  have hF9 : IsForm w [(x, instObj 31 dx), (dx, FD w k1 k2 k3 k4 k5 k6 t1 t2 t3 t4 t5 t6 E F B' T H M n₀)] x E F T H M := ⟨ok, dx, k1, k2, k3, k4, k5, k6, t1, t2, t3, t4, t5, t6, B', n₀, .head _, .tail _ (.head _)⟩
  obtain ⟨e0, e1, f0, f1, eT, eH, eM⟩ := ok
  have hp : (2 : Int) ^ F.toNat ≤ 8388608 ∧ 0 < (2 : Int) ^ F.toNat := ⟨by rw [eH] at b4; exact b4, pw_pos F⟩
  obtain ⟨hp1, hp2⟩ := hp
  have hr0 := hS.pos
  have hpe : (2 : Int) ^ E.toNat ≤ 256 ∧ 4 ≤ (2 : Int) ^ E.toNat := ⟨pw_le (a := E) (b := 8) e1, pw_le (a := 2) (b := E) e0⟩
  obtain ⟨hpe1, hpe2⟩ := hpe
  have htp : ((2 : Int) ^ E.toNat - 1) * 2 ^ F.toNat ≤ 255 * 2 ^ F.toNat := Int.mul_le_mul_of_nonneg_right (by omega) (Int.le_of_lt hp2)
  have hsp : (2 : Int) ^ (E + F).toNat ≤ 256 * 2 ^ F.toNat := by
    have q : (2 : Int) ^ (E + F).toNat = 2 ^ E.toNat * 2 ^ F.toNat := pw_add (by omega) (by omega)
    rw [q]
    exact Int.mul_le_mul_of_nonneg_right hpe1 (Int.le_of_lt hp2)
  have hsp0 : 0 < (2 : Int) ^ (E + F).toNat := pw_pos _
  have hz := fm_b bits hsp0
  obtain ⟨hz2, hz3⟩ := hz
  refine wpAny_call ?_
  k_dflt cell_enter
  (k_with "call ref" =>
      (with_reducible show wpAny _ _ (call (Value.ref 169) _) _ _ _)
      k_dflt
       refine' con_use0 (un_walk w mean mg mb _ x E F T H M _ _ ?kp ?kq ?kr) ?k1 ?k2 ?k3 ?k4 ?k5 ?kK ?kd ?ku ?_
      (case k1 => k_asm)
      (case k2 => k_asm)
      (case k3 => k_asm)
      (case k4 => k_asm)
      (case kp => exact hF9.mono (by kcj_all))
      (case kq => omega)
      (case kr => exact fdv hp2 (by omega))
      (case k5 => k_asm)
      (case kK => first | exact rfl | assumption)
      (case kd => ktr_room)
      (case ku => ktr_units)
      rintro v9 nx9 h9 tk9 ⟨rfl, ⟨t9, rfl⟩, hu9, hu9b⟩ F9 N9
      (try dsimp only)
      (try k_fold))
  (k_with "binaryOp Mult int int" =>
      first
      | (refine PyProof.Rows.mul_int ?_ (mulok_s (by assumption) (by assumption) (by assumption) (by assumption)))
      | (refine PyProof.Rows.mul_int ?_ (mulok_c (by assumption) (by assumption) b5)))
  (k_with "call ref" =>
      (with_reducible show wpAny _ _ (call (Value.ref 63) _) _ _ _)
      k_dflt
       refine' con_use0 (nn_walk w mean mg mb _ x E F T H M ?kp) ?k1 ?k2 ?k3 ?k4 ?k5 ?kK ?kd ?ku ?_
      (case k1 => k_asm)
      (case k2 => k_asm)
      (case k3 => k_asm)
      (case k4 => k_asm)
      (case kp => exact hF9.mono (by kcj_all))
      (case k5 => k_asm)
      (case kK => first | exact rfl | assumption)
      (case kd => ktr_room)
      (case ku => ktr_units)
      rintro v9 nx9 h9 tk9 ⟨rfl, t9, rfl⟩ F9 N9
      (try dsimp only)
      (try k_fold))
  k_steps
  all_goals (refine hret _ _ _ _ ⟨rfl, ?_⟩ (by assumption) (news_tl2 (by assumption)))
  all_goals (first
    | exact lr_nan hS (Or.inl (by assumption))
    | exact lr_nan hS (Or.inr ⟨by assumption, by assumption⟩)
    | exact lr_own hS (no1a (by assumption) (by assumption)) (Or.inl (by assumption))
    | exact lr_own hS (no1a (by assumption) (by assumption)) (Or.inr (by assumption))
    | exact lr_own hS (no1b (by assumption) (by assumption)) (Or.inl (by assumption))
    | (exfalso; omega)
    | exact absurd (by assumption) (Int.not_le.mpr (hS.lt (no1a (by assumption) (by assumption)) (no2 (by assumption) (by assumption))))
    | exact absurd (by assumption) (hS.gt (no1a (by assumption) (by assumption)) (no2 (by assumption) (by assumption)))
    | exact absurd (hS.low (no1a (by assumption) (by assumption)) (no2 (by assumption) (by assumption))) (by assumption)
    | exact lr_dec (hS.high (no1a (by assumption) (by assumption)) (no2 (by assumption) (by assumption))))

set_option maxRecDepth 100000
set_option maxHeartbeats 8000000

def nanB (T H bits : Int) : Bool := decide (Builtin.bitAnd (bits.fdiv H) T = T ∧ bits.fmod H ≠ 0)
def infB (T H bits : Int) : Bool := decide (Builtin.bitAnd (bits.fdiv H) T = T ∧ bits.fmod H = 0)
def um (T H bits : Int) : Int := if Builtin.bitAnd (bits.fdiv H) T = 0 then bits.fmod H else H + bits.fmod H
def ue (T H M bits : Int) : Int := if Builtin.bitAnd (bits.fdiv H) T = 0 then M else M + Builtin.bitAnd (bits.fdiv H) T - 1
theorem nan_n {T H bits : Int} (h : Builtin.bitAnd (bits.fdiv H) T ≠ T) : Value.bool (Builtin.bitAnd (bits.fdiv H) T == T) = Value.bool (nanB T H bits) := by
  unfold nanB; rw [decide_eq_false (fun q => h q.1), beq_eq_false_iff_ne.mpr h]
theorem nan_y {T H bits : Int} (h : Builtin.bitAnd (bits.fdiv H) T = T) : Value.bool (bits.fmod H != 0) = Value.bool (nanB T H bits) := by
  unfold nanB; congr 1; by_cases q : bits.fmod H = 0 <;> simp [h, q]
theorem inf_n {T H bits : Int} (h : Builtin.bitAnd (bits.fdiv H) T ≠ T) : Value.bool (Builtin.bitAnd (bits.fdiv H) T == T) = Value.bool (infB T H bits) := by
  unfold infB; rw [decide_eq_false (fun q => h q.1), beq_eq_false_iff_ne.mpr h]
theorem inf_y {T H bits : Int} (h : Builtin.bitAnd (bits.fdiv H) T = T) : Value.bool (bits.fmod H == 0) = Value.bool (infB T H bits) := by
  unfold infB; congr 1; by_cases q : bits.fmod H = 0 <;> simp [h, q]

theorem um_z {T H bits : Int} (h : Builtin.bitAnd (bits.fdiv H) T = 0) : um T H bits = bits.fmod H := if_pos h
theorem um_n {T H bits : Int} (h : Builtin.bitAnd (bits.fdiv H) T ≠ 0) : um T H bits = H + bits.fmod H := if_neg h
theorem ue_z {T H M bits : Int} (h : Builtin.bitAnd (bits.fdiv H) T = 0) : ue T H M bits = M := if_pos h
theorem ue_n {T H M bits : Int} (h : Builtin.bitAnd (bits.fdiv H) T ≠ 0) : ue T H M bits = M + Builtin.bitAnd (bits.fdiv H) T - 1 := if_neg h
abbrev tup3 (a b c : Int) (t1 t2 t3 : Tok) : Obj := { cls := Value.type "tuple", data := Data.seq #[Value.int a t1, Value.int b t2, Value.int c t3] }
theorem news_d4 {h₀ h : Heap} {L : Addr} {p q r u : Addr × Obj} {l : List (Addr × Obj)} (N : News h₀ L h (p :: q :: r :: u :: l)) : News h₀ L h (p :: l) := fun z hz => by
  rcases List.mem_cons.mp hz with rfl | hz
  · exact N _ (.head _)
  · exact N _ (.tail _ (.tail _ (.tail _ (.tail _ hz))))

theorem news_d3 {h₀ h : Heap} {L : Addr} {p q r : Addr × Obj} {l : List (Addr × Obj)} (N : News h₀ L h (p :: q :: r :: l)) : News h₀ L h (p :: l) := fun z hz => by
  rcases List.mem_cons.mp hz with rfl | hz
  · exact N _ (.head _)
  · exact N _ (.tail _ (.tail _ (.tail _ hz)))
theorem sp_walk : Seen PySem.Challenge.rw_pb0323_01 hd.heap_39 (∀ (w : World) (mean : ExcName → Option Value) (mg mb : Str → Option Value) (news : List (Addr × Obj)) (x : Addr) (E F T H M bits : Int) (tz : Tok),
    IsForm w news x E F T H M → 0 ≤ bits →
    Con w mean mg mb 49 5 50 [.ref x, .int bits tz] news (fun v nx => ∃ d u1 u2 u3, v = .ref d ∧ nx = (d, tup3 ((bits.fdiv H).fdiv (2 ^ E.toNat)) (Builtin.bitAnd (bits.fdiv H) T) (bits.fmod H) u1 u2 u3) :: news)) := by
  k_with_none
  k_fill
  unfold Seen
  intro w mean mg mb news₀ x E F T H M bits tz hF hz0 dp un' gd cn cs a ccd cl outer A₀ base h₀ L mm s Q E' B F' X N T' hk hd hu hret
  obtain ⟨ok, dx, k1, k2, k3, k4, k5, k6, t1, t2, t3, t4, t5, t6, B', n₀, hx, hdx⟩ := hF
  obtain ⟨b1, b2, b3, b4, b5, b6, b7⟩ := ok.bounds
  have N := news_cons (news_cons N hdx) (List.mem_cons_of_mem _ hx)
  have hF9 : IsForm w [(x, instObj 31 dx), (dx, FD w k1 k2 k3 k4 k5 k6 t1 t2 t3 t4 t5 t6 E F B' T H M n₀)] x E F T H M := ⟨ok, dx, k1, k2, k3, k4, k5, k6, t1, t2, t3, t4, t5, t6, B', n₀, .head _, .tail _ (.head _)⟩
  obtain ⟨e0, e1, f0, f1, eT, eH, eM⟩ := ok
  have hp0 : 0 < H := by omega
  refine wpAny_call ?_
  k_dflt cell_enter
  k_steps
  all_goals (refine' hret _ _ _ _ ⟨_, _, _, _, rfl, rfl⟩ (by assumption) ?hn; (case hn => exact news_d3 (by assumption)))

theorem in_walk : Seen PySem.Challenge.rw_pb0323_01 hd.heap_39 (∀ (w : World) (mean : ExcName → Option Value) (mg mb : Str → Option Value) (news : List (Addr × Obj)) (x : Addr) (E F T H M bits : Int) (tz : Tok),
    IsForm w news x E F T H M → 0 ≤ bits →
    Con w mean mg mb 77 10 100 [.ref x, .int bits tz] news (fun v nx => nx = news ∧ v = .bool (nanB T H bits))) := by
  k_with_none
  k_fill
  unfold Seen
  intro w mean mg mb news₀ x E F T H M bits tz hF hz0 dp un' gd cn cs a ccd cl outer A₀ base h₀ L mm s Q E' B F' X N T' hk hd hu hret
  obtain ⟨ok, dx, k1, k2, k3, k4, k5, k6, t1, t2, t3, t4, t5, t6, B', n₀, hx, hdx⟩ := hF
  obtain ⟨b1, b2, b3, b4, b5, b6, b7⟩ := ok.bounds
  have N := news_cons (news_cons N hdx) (List.mem_cons_of_mem _ hx)
  have hF9 : IsForm w [(x, instObj 31 dx), (dx, FD w k1 k2 k3 k4 k5 k6 t1 t2 t3 t4 t5 t6 E F B' T H M n₀)] x E F T H M := ⟨ok, dx, k1, k2, k3, k4, k5, k6, t1, t2, t3, t4, t5, t6, B', n₀, .head _, .tail _ (.head _)⟩
  obtain ⟨e0, e1, f0, f1, eT, eH, eM⟩ := ok
  have hp0 : 0 < H := by omega
  refine wpAny_call ?_
  k_dflt cell_enter
  (k_with "call ref" =>
      (with_reducible show wpAny _ _ (call (Value.ref 49) _) _ _ _)
      k_dflt
       refine' con_use0 (sp_walk w mean mg mb _ x E F T H M bits _ ?kp hz0) ?k1 ?k2 ?k3 ?k4 ?k5 ?kK ?kd ?ku ?_
      (case k1 => k_asm)
      (case k2 => k_asm)
      (case k3 => k_asm)
      (case k4 => k_asm)
      (case kp => exact hF9.mono (by kcj_all))
      (case k5 => k_asm)
      (case kK => first | exact rfl | assumption)
      (case kd => ktr_room)
      (case ku => ktr_units)
      rintro v9 nx9 h9 tk9 ⟨d9, u1, u2, u3, rfl, rfl⟩ F9 N9
      dsimp only [tup3] at N9
      (try dsimp only)
      (try k_fold))
  k_steps
  all_goals (refine hret _ _ _ _ ⟨rfl, ?_⟩ (by assumption) (news_tl2 (news_tl (by assumption))))
  all_goals (first | exact nan_y (by assumption) | exact nan_n (by assumption))

theorem ii_walk : Seen PySem.Challenge.rw_pb0323_01 hd.heap_39 (∀ (w : World) (mean : ExcName → Option Value) (mg mb : Str → Option Value) (news : List (Addr × Obj)) (x : Addr) (E F T H M bits : Int) (tz : Tok),
    IsForm w news x E F T H M → 0 ≤ bits →
    Con w mean mg mb 84 10 100 [.ref x, .int bits tz] news (fun v nx => nx = news ∧ v = .bool (infB T H bits))) := by
  k_with_none
  k_fill
  unfold Seen
  intro w mean mg mb news₀ x E F T H M bits tz hF hz0 dp un' gd cn cs a ccd cl outer A₀ base h₀ L mm s Q E' B F' X N T' hk hd hu hret
  obtain ⟨ok, dx, k1, k2, k3, k4, k5, k6, t1, t2, t3, t4, t5, t6, B', n₀, hx, hdx⟩ := hF
  obtain ⟨b1, b2, b3, b4, b5, b6, b7⟩ := ok.bounds
  have N := news_cons (news_cons N hdx) (List.mem_cons_of_mem _ hx)
  have hF9 : IsForm w [(x, instObj 31 dx), (dx, FD w k1 k2 k3 k4 k5 k6 t1 t2 t3 t4 t5 t6 E F B' T H M n₀)] x E F T H M := ⟨ok, dx, k1, k2, k3, k4, k5, k6, t1, t2, t3, t4, t5, t6, B', n₀, .head _, .tail _ (.head _)⟩
  obtain ⟨e0, e1, f0, f1, eT, eH, eM⟩ := ok
  have hp0 : 0 < H := by omega
  refine wpAny_call ?_
  k_dflt cell_enter
  (k_with "call ref" =>
      (with_reducible show wpAny _ _ (call (Value.ref 49) _) _ _ _)
      k_dflt
       refine' con_use0 (sp_walk w mean mg mb _ x E F T H M bits _ ?kp hz0) ?k1 ?k2 ?k3 ?k4 ?k5 ?kK ?kd ?ku ?_
      (case k1 => k_asm)
      (case k2 => k_asm)
      (case k3 => k_asm)
      (case k4 => k_asm)
      (case kp => exact hF9.mono (by kcj_all))
      (case k5 => k_asm)
      (case kK => first | exact rfl | assumption)
      (case kd => ktr_room)
      (case ku => ktr_units)
      rintro v9 nx9 h9 tk9 ⟨d9, u1, u2, u3, rfl, rfl⟩ F9 N9
      dsimp only [tup3] at N9
      (try dsimp only)
      (try k_fold))
  k_steps
  all_goals (refine hret _ _ _ _ ⟨rfl, ?_⟩ (by assumption) (news_tl2 (news_tl (by assumption))))
  all_goals (first | exact inf_y (by assumption) | exact inf_n (by assumption))

theorem so_walk : Seen PySem.Challenge.rw_pb0323_01 hd.heap_39 (∀ (w : World) (mean : ExcName → Option Value) (mg mb : Str → Option Value) (news : List (Addr × Obj)) (x : Addr) (E F T H M bits : Int) (tz : Tok),
    IsForm w news x E F T H M → 0 ≤ bits →
    Con w mean mg mb 98 10 100 [.ref x, .int bits tz] news (fun v nx => nx = news ∧ ∃ t, v = .int ((bits.fdiv H).fdiv (2 ^ E.toNat)) t)) := by
  k_with_none
  k_fill
  unfold Seen
  intro w mean mg mb news₀ x E F T H M bits tz hF hz0 dp un' gd cn cs a ccd cl outer A₀ base h₀ L mm s Q E' B F' X N T' hk hd hu hret
  obtain ⟨ok, dx, k1, k2, k3, k4, k5, k6, t1, t2, t3, t4, t5, t6, B', n₀, hx, hdx⟩ := hF
  obtain ⟨b1, b2, b3, b4, b5, b6, b7⟩ := ok.bounds
  have N := news_cons (news_cons N hdx) (List.mem_cons_of_mem _ hx)
  have hF9 : IsForm w [(x, instObj 31 dx), (dx, FD w k1 k2 k3 k4 k5 k6 t1 t2 t3 t4 t5 t6 E F B' T H M n₀)] x E F T H M := ⟨ok, dx, k1, k2, k3, k4, k5, k6, t1, t2, t3, t4, t5, t6, B', n₀, .head _, .tail _ (.head _)⟩
  obtain ⟨e0, e1, f0, f1, eT, eH, eM⟩ := ok
  have hp0 : 0 < H := by omega
  refine wpAny_call ?_
  k_dflt cell_enter
  (k_with "call ref" =>
      (with_reducible show wpAny _ _ (call (Value.ref 49) _) _ _ _)
      k_dflt
       refine' con_use0 (sp_walk w mean mg mb _ x E F T H M bits _ ?kp hz0) ?k1 ?k2 ?k3 ?k4 ?k5 ?kK ?kd ?ku ?_
      (case k1 => k_asm)
      (case k2 => k_asm)
      (case k3 => k_asm)
      (case k4 => k_asm)
      (case kp => exact hF9.mono (by kcj_all))
      (case k5 => k_asm)
      (case kK => first | exact rfl | assumption)
      (case kd => ktr_room)
      (case ku => ktr_units)
      rintro v9 nx9 h9 tk9 ⟨d9, u1, u2, u3, rfl, rfl⟩ F9 N9
      dsimp only [tup3] at N9
      (try dsimp only)
      (try k_fold))
  k_steps
  all_goals (refine hret _ _ _ _ ⟨rfl, _, rfl⟩ (by assumption) (news_tl2 (news_tl (by assumption))))

theorem up_walk : Seen PySem.Challenge.rw_pb0323_01 hd.heap_39 (∀ (w : World) (mean : ExcName → Option Value) (mg mb : Str → Option Value) (news : List (Addr × Obj)) (x : Addr) (E F T H M bits : Int) (tz : Tok),
    IsForm w news x E F T H M → 0 ≤ bits →
    Con w mean mg mb 105 10 100 [.ref x, .int bits tz] news (fun v nx => ∃ d u1 u2 u3, v = .ref d ∧ nx = (d, tup3 ((bits.fdiv H).fdiv (2 ^ E.toNat)) (um T H bits) (ue T H M bits) u1 u2 u3) :: news)) := by
  k_with_none
  k_fill
  unfold Seen
  intro w mean mg mb news₀ x E F T H M bits tz hF hz0 dp un' gd cn cs a ccd cl outer A₀ base h₀ L mm s Q E' B F' X N T' hk hd hu hret
  obtain ⟨ok, dx, k1, k2, k3, k4, k5, k6, t1, t2, t3, t4, t5, t6, B', n₀, hx, hdx⟩ := hF
  obtain ⟨b1, b2, b3, b4, b5, b6, b7⟩ := ok.bounds
  have N := news_cons (news_cons N hdx) (List.mem_cons_of_mem _ hx)
  have hF9 : IsForm w [(x, instObj 31 dx), (dx, FD w k1 k2 k3 k4 k5 k6 t1 t2 t3 t4 t5 t6 E F B' T H M n₀)] x E F T H M := ⟨ok, dx, k1, k2, k3, k4, k5, k6, t1, t2, t3, t4, t5, t6, B', n₀, .head _, .tail _ (.head _)⟩
  obtain ⟨e0, e1, f0, f1, eT, eH, eM⟩ := ok
  have hp0 : 0 < H := by omega
  refine wpAny_call ?_
  k_dflt cell_enter
  (k_with "call ref" =>
      (with_reducible show wpAny _ _ (call (Value.ref 49) _) _ _ _)
      k_dflt
       refine' con_use0 (sp_walk w mean mg mb _ x E F T H M bits _ ?kp hz0) ?k1 ?k2 ?k3 ?k4 ?k5 ?kK ?kd ?ku ?_
      (case k1 => k_asm)
      (case k2 => k_asm)
      (case k3 => k_asm)
      (case k4 => k_asm)
      (case kp => exact hF9.mono (by kcj_all))
      (case k5 => k_asm)
      (case kK => first | exact rfl | assumption)
      (case kd => ktr_room)
      (case ku => ktr_units)
      rintro v9 nx9 h9 tk9 ⟨d9, u1, u2, u3, rfl, rfl⟩ F9 N9
      dsimp only [tup3] at N9
      (try dsimp only)
      (try k_fold))
  k_steps
  all_goals (refine' hret _ _ _ _ ⟨_, _, _, _, rfl, rfl⟩ (by assumption) ?hn; (case hn => first | (rw [um_z (T := T) (H := H) (bits := bits) (by assumption), ue_z (T := T) (H := H) (bits := bits) (by assumption)]; exact news_d4 (by assumption)) | (rw [um_n (T := T) (H := H) (bits := bits) (by assumption), ue_n (T := T) (H := H) (bits := bits) (by assumption)]; exact news_d4 (by assumption))))

set_option maxRecDepth 100000
set_option maxHeartbeats 8000000

theorem um_facts {E F T H M bits : Int} (ok : FormOk E F T H M) (_h : 0 ≤ bits) : 0 ≤ um T H bits ∧ um T H bits < 2 * H ∧ M ≤ ue T H M bits ∧ ue T H M bits ≤ M + 255 ∧ bl (um T H bits) ≤ 24 ∧ 0 ≤ bl (um T H bits) := by
  obtain ⟨b1, b2, b3, b4, b5, b6, b7⟩ := ok.bounds
  have hp0 : 0 < H := by omega
  have h1 := fm_b bits hp0
  have hx : Builtin.bitAnd (bits.fdiv H) T = (bits.fdiv H) % 2 ^ E.toNat := by
    rw [ok.t]; exact kbt_mask _ _
  have hy : 0 ≤ Builtin.bitAnd (bits.fdiv H) T ∧ Builtin.bitAnd (bits.fdiv H) T < pw E := by
    rw [hx]
    exact ⟨Int.emod_nonneg _ (Int.ne_of_gt (pw_pos E)), Int.emod_lt_of_pos _ (pw_pos E)⟩
  have ht := ok.t
  have hm : 0 ≤ um T H bits ∧ um T H bits < 2 * H := by
    unfold um; split <;> omega
  refine ⟨hm.1, hm.2, ?_, ?_, bl_le (k := 24) (by have e : pw 24 = 16777216 := by decide
                                                  omega) (by decide), bl_nonneg _⟩
  · unfold ue; split <;> omega
  · unfold ue; split <;> omega
theorem sc_b {m S : Int} (h0 : 0 ≤ m) (h1 : m < 16777216) (hS : S ≤ 60) : 0 ≤ m * 2 ^ S.toNat ∧ m * 2 ^ S.toNat < pw 100 ∧ m * 2 ^ S.toNat < pw 4000 := by
  have hp : (0 : Int) < 2 ^ S.toNat := pw_pos S
  have hq : (2 : Int) ^ S.toNat ≤ pw 60 := pw_le hS
  have e : pw 84 = pw 24 * pw 60 := pw_add (a := 24) (b := 60) (by decide) (by decide)
  have e1 : pw 24 = 16777216 := by decide
  have e2 : pw 84 ≤ pw 100 := pw_le (by decide)
  have e3 : pw 100 ≤ pw 4000 := pw_le (by decide)
  have h3 : m * 2 ^ S.toNat < pw 24 * pw 60 := Int.lt_of_lt_of_le (Int.mul_lt_mul_of_pos_right (show m < pw 24 by omega) hp) (Int.mul_le_mul_of_nonneg_left hq (Int.le_of_lt (pw_pos 24)))
  exact ⟨Int.mul_nonneg h0 (Int.le_of_lt hp), by omega, by omega⟩
def SH (F b e : Int) : Int := (if 0 > 2 * F + 8 - b then 0 else 2 * F + 8 - b) + (e - (if 0 > 2 * F + 8 - b then 0 else 2 * F + 8 - b)).fmod 2
theorem SH_b {F b e : Int} (f0 : 1 ≤ F) (f1 : F ≤ 23) (h0 : 0 ≤ b) (h1 : b ≤ 24) : 0 ≤ SH F b e ∧ SH F b e ≤ 60 := by
  unfold SH
  have := fm_b (e - (if 0 > 2 * F + 8 - b then 0 else 2 * F + 8 - b)) (show (0:Int) < 2 by decide)
  generalize (e - (if 0 > 2 * F + 8 - b then 0 else 2 * F + 8 - b)).fmod 2 = z at *
  split <;> omega
theorem rt_b {n r : Int} (h : IsRoot n r) (hn : n < pw 100) : 0 ≤ r ∧ r < 2 ^ 64 ∧ r.natAbs < 2 ^ 64 := by
  obtain ⟨h0, h1, h2⟩ := h
  have hr : r < 2 ^ 64 := by
    by_cases q : r < 2 ^ 64
    · exact q
    · have h3 : (2 : Int) ^ 64 * 2 ^ 64 ≤ r * r := Int.mul_le_mul (by omega) (by omega) (by decide) (by omega)
      have h4 : pw 100 < (2 : Int) ^ 64 * 2 ^ 64 := by decide
      omega
  exact ⟨h0, hr, by omega⟩


set_option maxRecDepth 100000
set_option maxHeartbeats 1000000

/-! bits, taken apart -/
theorem pwn (n : Int) : (2 : Int) ^ n.toNat = pw n := rfl
/-- bits = (sg 2^E + ex) H + fr -/
structure Parts (E F bits sg ex fr : Int) : Prop where
  sg0 : 0 ≤ sg
  ex0 : 0 ≤ ex
  ex1 : ex < pw E
  fr0 : 0 ≤ fr
  fr1 : fr < pw F
  eq : bits = (sg * pw E + ex) * pw F + fr
  cfr : bits.fmod (pw F) = fr
  cup : bits.fdiv (pw F) = sg * pw E + ex
  csg : (bits.fdiv (pw F)).fdiv (pw E) = sg
  cex : Builtin.bitAnd (bits.fdiv (pw F)) (pw E - 1) = ex
  csz : bits.fmod (pw (E + F)) = ex * pw F + fr
theorem parts_of {E F bits : Int} (hE : 0 ≤ E) (hF : 0 ≤ F) (h : 0 ≤ bits) : ∃ sg ex fr, Parts E F bits sg ex fr := by
  have pE := pw_pos E
  have pF := pw_pos F
  have h1 := fm_b bits pF
  have h2 := fdiv_nonneg' h pF
  have h3 := fm_b (bits.fdiv (pw F)) pE
  have h4 := fdiv_nonneg' h2 pE
  have e1 := fmod_eq bits (pw F)
  have e2 := fmod_eq (bits.fdiv (pw F)) (pw E)
  refine ⟨(bits.fdiv (pw F)).fdiv (pw E), (bits.fdiv (pw F)).fmod (pw E), bits.fmod (pw F), h4, h3.1, h3.2, h1.1, h1.2, ?_, rfl, by omega, rfl, ?_, ?_⟩
  · rw [show (bits.fdiv (pw F)).fdiv (pw E) * pw E + (bits.fdiv (pw F)).fmod (pw E) = bits.fdiv (pw F) by omega]
    omega
  · show Builtin.bitAnd (bits.fdiv (pw F)) (2 ^ E.toNat - 1) = (bits.fdiv (pw F)).fmod (2 ^ E.toNat)
    exact kbt_maskF _ _
  · have e3 : pw (E + F) = pw E * pw F := pw_add hE hF
    have key : bits.fdiv (pw (E + F)) = (bits.fdiv (pw F)).fdiv (pw E) := by
      refine fdiv_eq ?_ ?_
      · rw [e3]
        generalize (bits.fdiv (pw F)).fdiv (pw E) = q at *
        generalize (bits.fdiv (pw F)).fmod (pw E) = z at *
        generalize bits.fdiv (pw F) = u at *
        have : q * (pw E * pw F) = q * pw E * pw F := by rw [Int.mul_assoc]
        rw [this]
        have h5 : (q * pw E) * pw F ≤ u * pw F := Int.mul_le_mul_of_nonneg_right (by omega) (Int.le_of_lt pF)
        omega
      · rw [e3]
        generalize (bits.fdiv (pw F)).fdiv (pw E) = q at *
        generalize (bits.fdiv (pw F)).fmod (pw E) = z at *
        generalize bits.fdiv (pw F) = u at *
        have : q * (pw E * pw F) + pw E * pw F = (q * pw E + pw E) * pw F := by rw [Int.add_mul, Int.mul_assoc]
        rw [this]
        have h5 : (u + 1) * pw F ≤ (q * pw E + pw E) * pw F := Int.mul_le_mul_of_nonneg_right (by omega) (Int.le_of_lt pF)
        rw [Int.add_mul] at h5
        omega
    rw [fmod_eq, key, e3]
    generalize (bits.fdiv (pw F)).fdiv (pw E) = q at *
    generalize (bits.fdiv (pw F)).fmod (pw E) = z at *
    generalize bits.fdiv (pw F) = u at *
    have : q * (pw E * pw F) = q * pw E * pw F := by rw [Int.mul_assoc]
    rw [this]
    have h6 : z = u - q * pw E := e2
    rw [h6, Int.sub_mul]
    omega

section
variable {E F T H M bits sg ex fr : Int}
theorem Parts.top (p : Parts E F bits sg ex fr) (e0 : 0 ≤ E) (f0 : 0 ≤ F) : pw (E + F) = pw E * pw F := pw_add e0 f0
theorem Parts.size_le (p : Parts E F bits sg ex fr) (e0 : 0 ≤ E) (f0 : 0 ≤ F) : ex * pw F + fr < pw (E + F) ∧ 0 ≤ ex * pw F + fr ∧ bits = sg * pw (E + F) + (ex * pw F + fr) := by
  have pF := pw_pos F
  have h1 : (ex + 1) * pw F ≤ pw E * pw F := Int.mul_le_mul_of_nonneg_right (by have := p.ex1; omega) (Int.le_of_lt pF)
  have h2 := Int.mul_nonneg p.ex0 (Int.le_of_lt pF)
  have h3 := p.fr1
  have h4 := p.fr0
  have h5 := p.eq
  rw [Int.add_mul] at h1 h5
  rw [pw_add e0 f0]
  have h6 : sg * (pw E * pw F) = sg * pw E * pw F := by rw [Int.mul_assoc]
  omega
theorem Parts.sg_le (p : Parts E F bits sg ex fr) (e0 : 0 ≤ E) (f0 : 0 ≤ F) (h : bits < 2 * pw (E + F)) : sg = 0 ∨ sg = 1 := by
  obtain ⟨a, b, c⟩ := p.size_le e0 f0
  have h0 := p.sg0
  have hp := pw_pos (E + F)
  by_cases q : sg ≤ 1
  · omega
  · have : 2 * pw (E + F) ≤ sg * pw (E + F) := Int.mul_le_mul_of_nonneg_right (by omega) (Int.le_of_lt hp)
    omega
end
/-- the tops agree -/
theorem odd1_iff {E F bits sg ex fr : Int} (p : Parts E F bits sg ex fr) : Odd1 E F bits ↔ ((pw E - 1) * pw F < ex * pw F + fr ∨ (pw (E + F) ≤ bits ∧ 0 < ex * pw F + fr)) := by
  unfold Odd1
  rw [pwn, pwn, pwn, p.csz]
theorem odd2_iff {E F bits sg ex fr : Int} (p : Parts E F bits sg ex fr) : Odd2 E F bits ↔ (ex * pw F + fr = 0 ∨ ex * pw F + fr = (pw E - 1) * pw F) := by
  unfold Odd2
  rw [pwn, pwn, pwn, p.csz]
theorem spec_odd1 {E F T H M bits found : Int} (h0 : 0 ≤ found) (h : Odd1 E F bits) (hf : found = T * H + H.fdiv 2) : RootSpec E F T H M bits found :=
  ⟨h0, fun _ => hf, fun q => absurd h q, fun q => absurd h q, fun q => absurd h q, fun q => absurd h q, fun q => absurd h q⟩
theorem spec_odd2 {E F T H M bits : Int} (h0 : 0 ≤ bits) (h1 : ¬ Odd1 E F bits) (h : Odd2 E F bits) : RootSpec E F T H M bits bits :=
  ⟨h0, fun q => absurd q h1, fun _ _ => rfl, fun _ q => absurd h q, fun _ q => absurd h q, fun _ q => absurd h q, fun _ q => absurd h q⟩
theorem nan_val {E F T H M : Int} (ok : FormOk E F T H M) (X : Int) : (0 * X + T) * H + H.fdiv (2 ^ Int.toNat 1) = T * H + H.fdiv 2 ∧ 0 ≤ T * H + H.fdiv 2 := by
  obtain ⟨b1, b2, b3, b4, b5, b6, b7⟩ := ok.bounds
  have e : (2 : Int) ^ Int.toNat 1 = 2 := rfl
  rw [e, Int.zero_mul, Int.zero_add]
  have := Int.mul_nonneg (show 0 ≤ T by omega) (show 0 ≤ H by omega)
  have := fdiv_nonneg' (a := H) (b := 2) (by omega) (by decide)
  exact ⟨rfl, by omega⟩
theorem rr_nan {E F T H M bits X : Int} {t : Tok} (ok : FormOk E F T H M) (hz : 0 ≤ bits) (h : nanB T H bits = true) : ∃ r t', Value.int ((0 * X + T) * H + H.fdiv (2 ^ Int.toNat 1)) t = .int r t' ∧ RootSpec E F T H M bits r := by
  obtain ⟨sg, ex, fr, p⟩ := parts_of (E := E) (F := F) (by have := ok.e0; omega) (by have := ok.f0; omega) hz
  obtain ⟨e1, e2⟩ := nan_val ok X
  refine ⟨_, t, rfl, spec_odd1 (by rw [e1]; exact e2) ((odd1_iff p).mpr (Or.inl ?_)) e1⟩
  unfold nanB at h
  rw [ok.h, ok.t, p.cex, p.cfr, decide_eq_true_eq] at h
  have := p.fr0
  rw [h.1]
  omega
theorem rr_sg {E F T H M bits X : Int} {t : Tok} (ok : FormOk E F T H M) (hz : 0 ≤ bits) (_hz1 : bits < 2 * 2 ^ (E + F).toNat) (_h : nanB T H bits = false) (h2 : bits.fmod (H * 2 ^ E.toNat) ≠ 0) (h3 : (bits.fdiv H).fdiv (2 ^ E.toNat) = 1) : ∃ r t', Value.int ((0 * X + T) * H + H.fdiv (2 ^ Int.toNat 1)) t = .int r t' ∧ RootSpec E F T H M bits r := by
  have hE : 0 ≤ E := by have := ok.e0; omega
  have hF : 0 ≤ F := by have := ok.f0; omega
  obtain ⟨sg, ex, fr, p⟩ := parts_of hE hF hz
  obtain ⟨e1, e2⟩ := nan_val ok X
  obtain ⟨a, b, c⟩ := p.size_le hE hF
  refine ⟨_, t, rfl, spec_odd1 (by rw [e1]; exact e2) ((odd1_iff p).mpr (Or.inr ?_)) e1⟩
  rw [ok.h, pwn, Int.mul_comm, ← pw_add hE hF, p.csz] at h2
  rw [ok.h, pwn, p.csg] at h3
  rw [h3, Int.one_mul] at c
  omega
theorem rr_zero {E F T H M bits : Int} {t : Tok} (ok : FormOk E F T H M) (hz : 0 ≤ bits) (_hz1 : bits < 2 * 2 ^ (E + F).toNat) (_h : nanB T H bits = false) (h2 : bits.fmod (H * 2 ^ E.toNat) = 0) : ∃ r t', Value.int bits t = .int r t' ∧ RootSpec E F T H M bits r := by
  have hE : 0 ≤ E := by have := ok.e0; omega
  have hF : 0 ≤ F := by have := ok.f0; omega
  obtain ⟨sg, ex, fr, p⟩ := parts_of hE hF hz
  rw [ok.h, pwn, Int.mul_comm, ← pw_add hE hF, p.csz] at h2
  refine ⟨_, t, rfl, spec_odd2 hz (fun q => ?_) ((odd2_iff p).mpr (Or.inl h2))⟩
  rw [odd1_iff p, h2] at q
  have := Int.mul_nonneg (show 0 ≤ pw E - 1 by have := pw_pos E; omega) (Int.le_of_lt (pw_pos F))
  omega
theorem rr_inf {E F T H M bits : Int} {t : Tok} (ok : FormOk E F T H M) (hz : 0 ≤ bits) (hz1 : bits < 2 * 2 ^ (E + F).toNat) (_h : nanB T H bits = false) (_h2 : bits.fmod (H * 2 ^ E.toNat) ≠ 0) (h3 : (bits.fdiv H).fdiv (2 ^ E.toNat) ≠ 1) (h4 : infB T H bits = true) : ∃ r t', Value.int bits t = .int r t' ∧ RootSpec E F T H M bits r := by
  have hE : 0 ≤ E := by have := ok.e0; omega
  have hF : 0 ≤ F := by have := ok.f0; omega
  obtain ⟨sg, ex, fr, p⟩ := parts_of hE hF hz
  obtain ⟨a, b, c⟩ := p.size_le hE hF
  rw [ok.h, pwn, p.csg] at h3
  have hs := p.sg_le hE hF hz1
  have hs0 : sg = 0 := by omega
  unfold infB at h4
  rw [ok.h, ok.t, p.cex, p.cfr, decide_eq_true_eq] at h4
  have e : ex * pw F + fr = (pw E - 1) * pw F := by rw [h4.1]; omega
  refine ⟨_, t, rfl, spec_odd2 hz (fun q => ?_) ((odd2_iff p).mpr (Or.inr e))⟩
  rw [odd1_iff p, e] at q
  rw [hs0, Int.zero_mul] at c
  omega

set_option maxRecDepth 100000
set_option maxHeartbeats 1000000


theorem sq_le {a b : Int} (h0 : 0 ≤ a) (h : a ≤ b) : a * a ≤ b * b := Int.mul_le_mul h h h0 (by omega)
theorem sq_lt {a b : Int} (h0 : 0 ≤ a) (h : a < b) : a * a < b * b := by
  have h1 : a * a ≤ a * b := Int.mul_le_mul_of_nonneg_left (by omega) h0
  have h2 : a * b < b * b := Int.mul_lt_mul_of_pos_right h (by omega)
  omega
/-- rounding: the bounds of what comes out -/
theorem rs_bound {m sh K : Int} {rest : Bool} (h0 : 0 ≤ m) (hK : 0 ≤ K) (h1 : bl m - sh ≤ K) (hp : 0 < sh → bl m - sh = K ∨ True) : 0 ≤ rs m sh rest ∧ rs m sh rest ≤ pw K := by
  have hb := bl_hi' h0
  unfold rs
  by_cases q : sh ≤ 0
  · rw [if_pos q]
    have p := pw_pos (0 - sh)
    refine ⟨Int.mul_nonneg h0 (Int.le_of_lt p), ?_⟩
    have e : pw (bl m + (0 - sh)) = pw (bl m) * pw (0 - sh) := pw_add (bl_nonneg m) (by omega)
    have h2 : m * pw (0 - sh) ≤ pw (bl m) * pw (0 - sh) := Int.mul_le_mul_of_nonneg_right (by omega) (Int.le_of_lt p)
    have h3 : pw (bl m + (0 - sh)) ≤ pw K := pw_le (by omega)
    omega
  · rw [if_neg q]
    have p := pw_pos sh
    have h2 := fdiv_nonneg' h0 p
    have h3 : m.fdiv (pw sh) < pw K := by
      obtain ⟨a, b⟩ := fdiv_bounds m p
      have h4 : pw (bl m) ≤ pw (K + sh) := pw_le (by omega)
      have h5 : pw (K + sh) = pw K * pw sh := pw_add hK (by omega)
      by_cases z : m.fdiv (pw sh) < pw K
      · exact z
      · have := Int.mul_le_mul_of_nonneg_right (show pw K ≤ m.fdiv (pw sh) by omega) (Int.le_of_lt p)
        omega
    split <;> omega
theorem rs_round {r sh n : Int} (hs : 0 < sh) (hr : IsRoot n r) : let k := rs r sh (r * r != n); (2 * k - 1) * pw (sh - 1) ≤ r ∧ n ≤ ((2 * k + 1) * pw (sh - 1)) * ((2 * k + 1) * pw (sh - 1)) ∧ r.fdiv (pw sh) ≤ k := by
  obtain ⟨r0, r1, r2⟩ := hr
  have p := pw_pos (sh - 1)
  have e : pw sh = 2 * pw (sh - 1) := by
    have := pw_succ (a := sh - 1) (by omega)
    rw [show sh - 1 + 1 = sh by omega] at this
    exact this
  obtain ⟨a, b⟩ := fdiv_bounds r (pw_pos sh)
  have q0 := fdiv_nonneg' r0 (pw_pos sh)
  intro k
  have hk : k = rs r sh (r * r != n) := rfl
  unfold rs at hk
  rw [if_neg (by omega)] at hk
  generalize r.fdiv (pw sh) = q at *
  rw [e] at hk a b
  generalize pw (sh - 1) = f at *
  have e1 : q * (2 * f) = 2 * (q * f) := by grind
  rw [e1] at hk a b
  have up : r + 1 ≤ (2 * k + 1) * f → n ≤ ((2 * k + 1) * f) * ((2 * k + 1) * f) := fun h => by
    have := sq_le (a := r + 1) (by omega) h
    omega
  split at hk
  · rename_i c
    have hl : f ≤ r - 2 * (q * f) := by omega
    have e2 : (2 * k - 1) * f = 2 * (q * f) + f := by rw [hk]; grind
    have e3 : (2 * k + 1) * f = 2 * (q * f) + 3 * f := by rw [hk]; grind
    exact ⟨by omega, up (by omega), by omega⟩
  · rename_i c
    have c1 : ¬ r - 2 * (q * f) > f := fun h => c (Or.inl h)
    have e2 : (2 * k - 1) * f = 2 * (q * f) - f := by rw [hk]; grind
    have e3 : (2 * k + 1) * f = 2 * (q * f) + f := by rw [hk]; grind
    refine ⟨by omega, ?_, by omega⟩
    by_cases z : r - 2 * (q * f) = f
    · have c2 : ¬ ((r * r != n) = true) := fun h => c (Or.inr ⟨z, Or.inl h⟩)
      have c3 : r * r = n := by simpa using c2
      have : (2 * k + 1) * f = r := by omega
      rw [this]
      omega
    · exact up (by omega)
theorem un_enc {F D c : Int} (hD : 0 ≤ D) (h1 : pw F ≤ c) (h2 : c < 2 * pw F) : un F (D * pw F + c) = c * pw D := by
  have e : (D * pw F + c).fdiv (pw F) = D + 1 := fdiv_eq (by rw [Int.add_mul]; omega) (by rw [Int.add_mul]; omega)
  have e2 : (D * pw F + c).fmod (pw F) = c - pw F := by
    rw [fmod_eq, e, Int.add_mul]; omega
  unfold un
  rw [pwn, pwn, e, e2, if_neg (by omega)]
  rw [show pw F + (c - pw F) = c by omega, show D + 1 - 1 = D by omega]
theorem un_enc' {F D c : Int} (hF : 1 ≤ F) (hD : 0 ≤ D) (h1 : pw F ≤ c) (h2 : c ≤ 2 * pw F) : un F (D * pw F + c) = c * pw D := by
  by_cases q : c < 2 * pw F
  · exact un_enc hD h1 q
  · have e : c = 2 * pw F := by omega
    have e1 : D * pw F + c = (D + 1) * pw F + pw F := by rw [Int.add_mul]; omega
    have p := pw_pos F
    rw [e1, un_enc (by omega) (Int.le_refl _) (by omega), pw_succ hD, e]
    grind
theorem un_small {F z : Int} (h0 : 0 ≤ z) (h1 : z < pw F) : un F z = z := by
  have e : z.fdiv (pw F) = 0 := fdiv_eq (by omega) (by omega)
  unfold un
  rw [pwn, e, if_pos rfl, fmod_eq, e]
  omega
theorem un_small' {F z : Int} (hF : 1 ≤ F) (h0 : 0 ≤ z) (h1 : z ≤ 2 * pw F) : un F z = z := by
  by_cases q : z < pw F
  · exact un_small h0 q
  · have := un_enc' (F := F) (D := 0) (c := z) hF (by decide) (by omega) h1
    rw [Int.zero_mul, Int.zero_add, pw_zero, Int.mul_one] at this
    exact this
/-- pk2's value lies within the form -/
theorem pk2_bound {T H M place kept : Int} (hT : 1 ≤ T) (hH : 1 ≤ H) (hp : M ≤ place) (h0 : 0 ≤ kept) (h1 : kept ≤ 2 * H) : 0 ≤ pk2 T H M place kept ∧ pk2 T H M place kept ≤ T * H := by
  have hTH : H ≤ T * H := by
    have := Int.mul_le_mul_of_nonneg_right hT (show 0 ≤ H by omega)
    omega
  unfold pk2 pk3
  split
  · rw [if_neg (by omega)]
    split
    · omega
    · rename_i c
      have h2 := Int.mul_nonneg (show 0 ≤ place + 1 - M + 1 by omega) (show 0 ≤ H by omega)
      have h3 := Int.mul_le_mul_of_nonneg_right (show place + 1 - M + 1 ≤ T by omega) (show 0 ≤ H by omega)
      omega
  · split
    · omega
    · split
      · omega
      · rename_i c1 c2 c
        have h2 := Int.mul_nonneg (show 0 ≤ place - M + 1 by omega) (show 0 ≤ H by omega)
        have h3 := Int.mul_le_mul_of_nonneg_right (show place - M + 1 + 1 ≤ T by omega) (show 0 ≤ H by omega)
        rw [Int.add_mul (place - M + 1)] at h3
        omega
theorem fi_b {E F T H M n : Int} (ok : FormOk E F T H M) (h0 : 0 ≤ n) (_h1 : n < 2 ^ 64) : 0 ≤ pk F T H M n 0 false ∧ pk F T H M n 0 false < 2 * 2 ^ (E + F).toNat := by
  obtain ⟨b1, b2, b3, b4, b5, b6, b7⟩ := ok.bounds
  have e : pw (E + F) = pw E * pw F := pw_add (by have := ok.e0; omega) (by have := ok.f0; omega)
  have hTH : T * H < pw (E + F) := by
    rw [e, ok.h, ok.t, Int.sub_mul]
    have := pw_pos F
    omega
  have hp := pw_pos (E + F)
  show _ ∧ _ < 2 * pw (E + F)
  unfold pk
  split
  · omega
  · have f0 := ok.f0
    have hk := rs_bound (m := n) (sh := (if M > 0 + bl n - F - 1 then M else 0 + bl n - F - 1) - 0) (K := F + 1) (rest := false) h0 (by omega) (by split <;> omega) (fun _ => Or.inr trivial)
    rw [pw_succ (by omega), ← ok.h] at hk
    have := pk2_bound (T := T) (H := H) (M := M) (place := if M > 0 + bl n - F - 1 then M else 0 + bl n - F - 1) (by omega) (by omega) (by split <;> omega) hk.1 hk.2
    omega

set_option maxRecDepth 100000
set_option maxHeartbeats 1000000


theorem canc_le {a f P n sq : Int} (hf : 0 < f) (e : sq * (f * f) = n * (P * P)) (h : (a * f) * (a * f) ≤ n) : (a * P) * (a * P) ≤ sq := by
  have hff : 0 < f * f := Int.mul_pos hf hf
  have hPP : 0 ≤ P * P := by
    rcases Int.le_total 0 P with q | q
    · exact Int.mul_nonneg q q
    · exact Int.mul_nonneg_of_nonpos_of_nonpos q q
  refine Int.le_of_mul_le_mul_right (a := f * f) ?_ hff
  have h1 : (a * f) * (a * f) * (P * P) ≤ n * (P * P) := Int.mul_le_mul_of_nonneg_right h hPP
  have h2 : (a * P) * (a * P) * (f * f) = (a * f) * (a * f) * (P * P) := by grind
  omega
theorem canc_ge {a f P n sq : Int} (hf : 0 < f) (e : sq * (f * f) = n * (P * P)) (h : n ≤ (a * f) * (a * f)) : sq ≤ (a * P) * (a * P) := by
  have hff : 0 < f * f := Int.mul_pos hf hf
  have hPP : 0 ≤ P * P := by
    rcases Int.le_total 0 P with q | q
    · exact Int.mul_nonneg q q
    · exact Int.mul_nonneg_of_nonpos_of_nonpos q q
  refine Int.le_of_mul_le_mul_right (a := f * f) ?_ hff
  have h1 : n * (P * P) ≤ (a * f) * (a * f) * (P * P) := Int.mul_le_mul_of_nonneg_right h hPP
  have h2 : (a * P) * (a * P) * (f * f) = (a * f) * (a * f) * (P * P) := by grind
  omega

/-- what is asked of the number found, at a square sq -/
def Near (F T H sq found : Int) : Prop := 0 < found ∧ found < T * H ∧ (un F (found - 1) + un F found) * (un F (found - 1) + un F found) ≤ sq ∧ sq ≤ (un F found + un F (found + 1)) * (un F found + un F (found + 1))

theorem near_big {F H T D k sq : Int} (hF : 1 ≤ F) (hH : H = pw F) (hD : 0 ≤ D) (c1 : k = 2 * H) (h2 : 2 ≤ H) (hn : D + 3 ≤ T)
    (hA : ((2 * k - 1) * pw D) * ((2 * k - 1) * pw D) ≤ sq) (hB : sq ≤ ((2 * k + 1) * pw D) * ((2 * k + 1) * pw D)) : Near F T H sq (D * H + 2 * H) := by
  have pP := pw_pos D
  have hP1 : pw (D + 1) = 2 * pw D := pw_succ hD
  have u0 : un F (D * H + 2 * H) = 2 * H * pw D := by rw [hH]; exact un_enc' hF hD (by omega) (by omega)
  have u1 : un F (D * H + 2 * H - 1) = (2 * H - 1) * pw D := by
    have h := un_enc' (F := F) (D := D) (c := 2 * H - 1) hF hD (by omega) (by omega)
    rw [← hH] at h
    rw [← h, Int.add_sub_assoc]
  have u2 : un F (D * H + 2 * H + 1) = (H + 1) * (2 * pw D) := by
    have h := un_enc' (F := F) (D := D + 1) (c := H + 1) hF (by omega) (by omega) (by omega)
    rw [← hH, hP1, Int.add_mul] at h
    rw [← h]
    congr 1
    omega
  have hlt : (D + 3) * H ≤ T * H := Int.mul_le_mul_of_nonneg_right hn (by omega)
  have hDH := Int.mul_nonneg hD (show 0 ≤ H by omega)
  generalize pw D = P at *
  clear hH hn hP1
  rw [Int.add_mul] at hlt
  refine ⟨by omega, by omega, ?_, ?_⟩
  · rw [u0, u1]
    have e1 : (2 * H - 1) * P + 2 * H * P = (2 * k - 1) * P := by rw [c1, ← Int.add_mul]; congr 1; omega
    rw [e1]; exact hA
  · rw [u0, u2]
    refine Int.le_trans hB (sq_le (Int.mul_nonneg (by omega) (by omega)) ?_)
    have e1 : 2 * H * P + (H + 1) * (2 * P) = (2 * k + 2) * P := by
      have e0 : (H + 1) * (2 * P) = (2 * H + 2) * P := by rw [← Int.mul_assoc, Int.mul_comm (H + 1) 2]; congr 1; omega
      rw [e0, c1, ← Int.add_mul]; congr 1; omega
    rw [e1]
    exact Int.mul_le_mul_of_nonneg_right (by omega) (Int.le_of_lt pP)
theorem near_small {F H T k sq : Int} (hF : 1 ≤ F) (hH : H = pw F) (k1 : 1 ≤ k) (c2 : k < H) (hT : 3 * H ≤ T * H)
    (hA : (2 * k - 1) * (2 * k - 1) ≤ sq) (hB : sq ≤ (2 * k + 1) * (2 * k + 1)) : Near F T H sq k := by
  have u0 : un F k = k := un_small' hF (by omega) (by omega)
  have u1 : un F (k - 1) = k - 1 := un_small' hF (by omega) (by omega)
  have u2 : un F (k + 1) = k + 1 := un_small' hF (by omega) (by omega)
  refine ⟨by omega, by omega, ?_, ?_⟩
  · rw [u0, u1, show k - 1 + k = 2 * k - 1 by omega]; exact hA
  · rw [u0, u2, show k + (k + 1) = 2 * k + 1 by omega]; exact hB
theorem near_mid {F H T D k sq : Int} (hF : 1 ≤ F) (hH : H = pw F) (hD : 0 ≤ D) (c1 : k < 2 * H) (c2 : H ≤ k) (h2 : 2 ≤ H) (hn : D + 2 ≤ T)
    (hA : ((2 * k - 1) * pw D) * ((2 * k - 1) * pw D) ≤ sq) (hB : sq ≤ ((2 * k + 1) * pw D) * ((2 * k + 1) * pw D))
    (hC : 0 < D → ((2 * H) * pw D) * ((2 * H) * pw D) ≤ sq) : Near F T H sq (D * H + k) := by
  have pP := pw_pos D
  have u0 : un F (D * H + k) = k * pw D := by rw [hH]; exact un_enc' hF hD (by omega) (by omega)
  have u2 : un F (D * H + k + 1) = (k + 1) * pw D := by rw [Int.add_assoc, hH]; exact un_enc' hF hD (by omega) (by omega)
  have hlt : (D + 2) * H ≤ T * H := Int.mul_le_mul_of_nonneg_right hn (by omega)
  have hDH := Int.mul_nonneg hD (show 0 ≤ H by omega)
  have low : (un F (D * H + k - 1) + un F (D * H + k)) * (un F (D * H + k - 1) + un F (D * H + k)) ≤ sq := by
    by_cases c3 : H < k
    · have u1 : un F (D * H + k - 1) = (k - 1) * pw D := by rw [Int.add_sub_assoc, hH]; exact un_enc' hF hD (by omega) (by omega)
      rw [u0, u1, ← Int.add_mul, show k - 1 + k = 2 * k - 1 by omega]
      exact hA
    · have hk : k = H := by omega
      by_cases c4 : 0 < D
      · have d1 : 0 ≤ D - 1 := by omega
        have hP2 : pw D = 2 * pw (D - 1) := by
          have h := pw_succ d1
          rw [show D - 1 + 1 = D by omega] at h
          exact h
        have u1 : un F (D * H + k - 1) = (2 * H - 1) * pw (D - 1) := by
          have h := un_enc' (F := F) (D := D - 1) (c := 2 * H - 1) hF d1 (by omega) (by omega)
          rw [← hH, Int.sub_mul] at h
          rw [← h]
          congr 1
          omega
        refine Int.le_trans (sq_le ?_ ?_) (hC c4)
        · rw [u0, u1]
          exact Int.add_nonneg (Int.mul_nonneg (by omega) (Int.le_of_lt (pw_pos _))) (Int.mul_nonneg (by omega) (Int.le_of_lt pP))
        · rw [u0, u1, hk, hP2]
          have pq := pw_pos (D - 1)
          clear u0 u1 u2 hA hB hC hlt hDH pP hP2
          generalize pw (D - 1) = z at *
          have e1 : H * (2 * z) = 2 * H * z := by rw [← Int.mul_assoc, Int.mul_comm H 2]
          have e2 : 2 * H * (2 * z) = 4 * H * z := by rw [← Int.mul_assoc, Int.mul_comm (2 * H) 2, ← Int.mul_assoc 2 2 H]; rfl
          rw [e1, e2, ← Int.add_mul]
          exact Int.mul_le_mul_of_nonneg_right (by omega) (Int.le_of_lt pq)
      · have hD0 : D = 0 := by omega
        subst hD0
        have u1 : un F (0 * H + k - 1) = k - 1 := by
          rw [Int.zero_mul, Int.zero_add]; exact un_small' hF (by omega) (by omega)
        rw [pw_zero, Int.mul_one] at hA u0
        rw [u0, u1, show k - 1 + k = 2 * k - 1 by omega]
        exact hA
  rw [Int.add_mul] at hlt
  refine ⟨by omega, by omega, low, ?_⟩
  rw [u0, u2, ← Int.add_mul, show k + (k + 1) = 2 * k + 1 by omega]
  exact hB
theorem enc_near {F T H M place k sq : Int} (hF : 1 ≤ F) (hH : H = pw F) (hT : 3 ≤ T) (hD : 0 ≤ place - M) (k1 : 1 ≤ k) (k2 : k ≤ 2 * H)
    (hA : ((2 * k - 1) * pw (place - M)) * ((2 * k - 1) * pw (place - M)) ≤ sq) (hB : sq ≤ ((2 * k + 1) * pw (place - M)) * ((2 * k + 1) * pw (place - M)))
    (hC : 0 < place - M → H ≤ k ∧ ((2 * H) * pw (place - M)) * ((2 * H) * pw (place - M)) ≤ sq)
    (hX : sq < (H * pw (T - 1)) * (H * pw (T - 1))) : Near F T H sq (pk2 T H M place k) := by
  have hH2 : 2 ≤ H := by rw [hH]; exact pw_le (a := 1) (b := F) hF
  have H0 : 0 ≤ H := by omega
  have hTH : 3 * H ≤ T * H := Int.mul_le_mul_of_nonneg_right hT H0
  have big : ∀ Y : Int, Y * Y ≤ sq → H * pw (T - 1) ≤ Y → False := fun Y h1 h2 =>
    absurd (Int.lt_of_le_of_lt h1 hX) (Int.not_lt.mpr (sq_le (Int.mul_nonneg H0 (Int.le_of_lt (pw_pos (T - 1)))) h2))
  clear hX
  obtain ⟨D, eD⟩ : ∃ D, D = place - M := ⟨_, rfl⟩
  rw [← eD] at hD hA hB hC
  have eP : place = D + M := by omega
  subst eP
  clear eD
  have pP := pw_pos D
  unfold pk2 pk3
  by_cases c1 : k = 2 * H
  · rw [if_pos c1, if_neg (Int.lt_irrefl H)]
    have e0 : D + M + 1 - M + 1 = D + 2 := by omega
    rw [e0]
    have hn : ¬ T ≤ D + 2 := fun h => by
      refine big _ hA ?_
      have h1 : pw (T - 1) ≤ pw (D + 1) := pw_le (by omega)
      rw [pw_succ hD] at h1
      refine Int.le_trans (Int.mul_le_mul_of_nonneg_left h1 H0) ?_
      rw [← Int.mul_assoc, Int.mul_comm H 2]
      exact Int.mul_le_mul_of_nonneg_right (by omega) (Int.le_of_lt pP)
    rw [if_neg hn, Int.sub_self, Int.add_zero, Int.add_mul]
    exact near_big hF hH hD c1 hH2 (by omega) hA hB
  · rw [if_neg c1]
    by_cases c2 : k < H
    · rw [if_pos c2]
      have hD0 : D = 0 := by
        by_cases z : 0 < D
        · exact absurd (hC z).1 (Int.not_le.mpr c2)
        · omega
      rw [hD0, pw_zero, Int.mul_one] at hA hB
      exact near_small hF hH k1 c2 hTH hA hB
    · rw [if_neg c2]
      have e0 : D + M - M + 1 = D + 1 := by omega
      rw [e0]
      have hn : ¬ T ≤ D + 1 := fun h => by
        refine big _ hA ?_
        refine Int.le_trans (Int.mul_le_mul_of_nonneg_left (pw_le (b := D) (by omega)) H0) ?_
        exact Int.mul_le_mul_of_nonneg_right (by omega) (Int.le_of_lt pP)
      rw [if_neg hn]
      have ef : (D + 1) * H + (k - H) = D * H + k := by rw [Int.add_mul]; omega
      rw [ef]
      exact near_mid hF hH hD (by omega) (by omega) hH2 (by omega) hA hB (fun q => (hC q).2)

set_option maxRecDepth 100000
set_option maxHeartbeats 1000000


theorem SH_facts {F b e : Int} (f0 : 0 ≤ F) : 2 * F + 8 - b ≤ SH F b e ∧ 0 ≤ SH F b e ∧ e - SH F b e = 2 * (e - SH F b e).fdiv 2 := by
  have key : ∀ s1 : Int, 2 * F + 8 - b ≤ s1 → 0 ≤ s1 → 2 * F + 8 - b ≤ s1 + (e - s1).fmod 2 ∧ 0 ≤ s1 + (e - s1).fmod 2 ∧ e - (s1 + (e - s1).fmod 2) = 2 * (e - (s1 + (e - s1).fmod 2)).fdiv 2 := fun s1 h1 h2 => by
    have h3 := fm_b (e - s1) (show (0:Int) < 2 by decide)
    have h4 := fmod_eq (e - s1) 2
    have h5 : (e - (s1 + (e - s1).fmod 2)).fdiv 2 = (e - s1).fdiv 2 := fdiv_eq (by omega) (by omega)
    rw [h5]
    omega
  unfold SH
  exact key _ (by split <;> omega) (by split <;> omega)
theorem exp_id {e M place h S : Int} (h1 : M ≤ e) (h2 : M ≤ 0) (h3 : 0 ≤ place - h - 1) (h4 : 0 ≤ S) (h5 : M ≤ place) (h6 : e - S = 2 * h) :
    pw 2 * pw (e - M) * pw (0 - M) * pw (place - h - 1) * pw (place - h - 1) = pw S * pw (place - M) * pw (place - M) := by
  have a1 : 0 ≤ e - M := by omega
  have a2 : 0 ≤ 0 - M := by omega
  have a4 : 0 ≤ place - M := by omega
  have c1 := Int.add_nonneg (show (0 : Int) ≤ 2 by decide) a1
  have c2 := Int.add_nonneg c1 a2
  have c3 := Int.add_nonneg c2 h3
  rw [← pw_add (by decide) a1, ← pw_add c1 a2, ← pw_add c2 h3, ← pw_add c3 h3, ← pw_add h4 a4, ← pw_add (Int.add_nonneg h4 a4) a4]
  congr 1
  omega
theorem sq_id {m e M place h S n : Int} (hn : n = m * pw S) (l1 : pw 2 * pw (e - M) * pw (0 - M) * pw (place - h - 1) * pw (place - h - 1) = pw S * pw (place - M) * pw (place - M)) :
    4 * (m * pw (e - M)) * pw (0 - M) * (pw (place - h - 1) * pw (place - h - 1)) = n * (pw (place - M) * pw (place - M)) := by
  have l2 : pw 2 = 4 := rfl
  rw [l2] at l1
  rw [hn]
  generalize pw (e - M) = x1 at *
  generalize pw (0 - M) = x2 at *
  generalize pw (place - h - 1) = x3 at *
  generalize pw (place - M) = x4 at *
  generalize pw S = x5 at *
  have e1 : 4 * (m * x1) * x2 * (x3 * x3) = m * (4 * x1 * x2 * x3 * x3) := by
    simp only [Int.mul_assoc, Int.mul_left_comm]
  have e2 : m * x5 * (x4 * x4) = m * (x5 * x4 * x4) := by
    simp only [Int.mul_assoc, Int.mul_left_comm]
  rw [e1, e2, l1]
theorem root_lo {F m S r n : Int} (f0 : 1 ≤ F) (m1 : 1 ≤ m) (s1 : 2 * F + 8 - bl m ≤ S) (s2 : 0 ≤ S) (hn : n = m * pw S) (r0 : 0 ≤ r) (r2 : n < (r + 1) * (r + 1)) : pw (F + 3) ≤ r := by
  have n1 : pw (2 * F + 6) ≤ n := by
    have mb := bl_lo (m := m) (by omega)
    have mp := bl_pos (m := m) (by omega)
    have h1 : pw (bl m - 1) * pw S ≤ n := by rw [hn]; exact Int.mul_le_mul_of_nonneg_right mb (Int.le_of_lt (pw_pos S))
    rw [← pw_add (by omega) s2] at h1
    exact Int.le_trans (pw_le (by omega)) h1
  by_cases q : pw (F + 3) ≤ r
  · exact q
  · have h1 := sq_le (a := r + 1) (b := pw (F + 3)) (by omega) (by omega)
    rw [← pw_add (by omega) (by omega), show F + 3 + (F + 3) = 2 * F + 6 by omega] at h1
    exact absurd (Int.lt_of_le_of_lt n1 r2) (Int.not_lt.mpr h1)
theorem top_lt {E F T H M m e : Int} (ok : FormOk E F T H M) (m2 : m < 2 * H) (e2 : e - M ≤ T - 2) (m1 : 1 ≤ m) : 4 * (m * pw (e - M)) * pw (0 - M) < (H * pw (T - 1)) * (H * pw (T - 1)) := by
  have f0 := ok.f0
  have e0 := ok.e0
  have hH := ok.h
  have hq : 2 ≤ pw (E - 1) := pw_le (a := 1) (b := E - 1) (by omega)
  have hTq : T + 1 = 2 * pw (E - 1) := by
    have h1 := pw_succ (a := E - 1) (by omega)
    rw [show E - 1 + 1 = E by omega] at h1
    rw [ok.t, ← h1]
    omega
  have hM := ok.m
  clear ok
  have t0 : 0 ≤ T - 2 := by omega
  have t1 : 0 ≤ T - 1 := by omega
  have F0 : 0 ≤ F := by omega
  have F1 : 0 ≤ F + 1 := by omega
  have M0 : 0 ≤ 0 - M := by omega
  have fin : 2 + (F + 1 + (T - 2)) + (0 - M) ≤ F + (T - 1) + (F + (T - 1)) := by omega
  have g1 : m * pw (e - M) < pw (F + 1) * pw (T - 2) := by
    have h2 : m < pw (F + 1) := by rw [pw_succ F0, ← hH]; exact m2
    exact Int.lt_of_lt_of_le (Int.mul_lt_mul_of_pos_right h2 (pw_pos _)) (Int.mul_le_mul_of_nonneg_left (pw_le e2) (Int.le_of_lt (pw_pos (F + 1))))
  have g2 : 4 * (m * pw (e - M)) * pw (0 - M) < pw 2 * (pw (F + 1) * pw (T - 2)) * pw (0 - M) :=
    Int.mul_lt_mul_of_pos_right (Int.mul_lt_mul_of_pos_left g1 (show (0 : Int) < 4 by decide)) (pw_pos _)
  have g3 : pw 2 * (pw (F + 1) * pw (T - 2)) * pw (0 - M) = pw (2 + (F + 1 + (T - 2)) + (0 - M)) := by
    have c1 := Int.add_nonneg F1 t0
    rw [← pw_add F1 t0, ← pw_add (by decide) c1, ← pw_add (Int.add_nonneg (by decide) c1) M0]
  have g4 : (H * pw (T - 1)) * (H * pw (T - 1)) = pw (F + (T - 1) + (F + (T - 1))) := by
    have c1 := Int.add_nonneg F0 t1
    rw [hH, ← pw_add F0 t1, ← pw_add c1 c1]
  rw [g4]
  rw [g3] at g2
  exact Int.lt_of_lt_of_le g2 (pw_le fin)
theorem k_hi {F H place h r k : Int} (hH : H = pw F) (_hF : 0 ≤ F) (q : place = h + bl r - F - 1) (q2 : 0 ≤ place - h) (rlo : pw (bl r - 1) ≤ r) (rC : r.fdiv (pw (place - h)) ≤ k) : H ≤ k ∧ H * pw (place - h) ≤ r := by
  have h2 : pw (bl r - 1) = pw F * pw (place - h) := by
    rw [← pw_add _hF q2]
    congr 1
    omega
  rw [h2, ← hH] at rlo
  refine ⟨Int.le_trans ?_ rC, rlo⟩
  obtain ⟨x1, x2⟩ := fdiv_bounds r (pw_pos (place - h))
  have hp := pw_pos (place - h)
  clear rC q q2 h2 hH
  generalize r.fdiv (pw (place - h)) = z at *
  generalize pw (place - h) = y at *
  by_cases w : H ≤ z
  · exact w
  · have := Int.mul_le_mul_of_nonneg_right (show z + 1 ≤ H by omega) (Int.le_of_lt hp)
    rw [Int.add_mul] at this
    omega
/-- the root of a number m 2 ^ e, packed, is near -/
theorem root_near {E F T H M m e r : Int} (ok : FormOk E F T H M) (m1 : 1 ≤ m) (m2 : m < 2 * H) (e1 : M ≤ e) (e2 : e - M ≤ T - 2)
    (hr : IsRoot (m * pw (SH F (bl m) e)) r) : Near F T H (4 * (m * pw (e - M)) * pw (0 - M)) (pk F T H M r ((e - SH F (bl m) e).fdiv 2) (r * r != m * pw (SH F (bl m) e))) := by
  have f0 := ok.f0
  have F0 : 0 ≤ F := by omega
  have hH := ok.h
  have top := top_lt ok m2 e2 m1
  obtain ⟨s1, s2, s3⟩ := SH_facts (F := F) (b := bl m) (e := e) F0
  generalize SH F (bl m) e = S at *
  generalize (e - S).fdiv 2 = h at *
  obtain ⟨n, hn⟩ : ∃ n, n = m * pw S := ⟨_, rfl⟩
  rw [← hn] at hr ⊢
  have hr' := hr
  obtain ⟨r0, r1, r2⟩ := hr'
  have r3 := root_lo f0 m1 s1 s2 hn r0 r2
  have rp : 0 < r := Int.lt_of_lt_of_le (pw_pos _) r3
  have rb := bl_ge r3 (Int.add_nonneg F0 (by decide))
  have rlo := bl_lo rp
  have T3 := ok.bounds.1
  have M0 : M ≤ 0 := by have := ok.bounds.2.2.2.2.2.1; omega
  clear ok m2 e2 r2 r3 s1
  obtain ⟨place, hpl⟩ : ∃ p, p = (if M > h + bl r - F - 1 then M else h + bl r - F - 1) := ⟨_, rfl⟩
  have pl1 : M ≤ place := by rw [hpl]; split <;> omega
  have pl2 : h + bl r - F - 1 ≤ place := by rw [hpl]; split <;> omega
  have pl3 : 0 < place - M → place = h + bl r - F - 1 := by rw [hpl]; split <;> omega
  have hpk : pk F T H M r h (r * r != n) = pk2 T H M place (rs r (place - h) (r * r != n)) := by
    unfold pk; rw [if_neg (Int.ne_of_gt rp), ← hpl]
  rw [hpk]
  clear hpk hpl
  have sh1 : 0 < place - h := by omega
  have sh0 : 0 ≤ place - h := Int.le_of_lt sh1
  have shm : 0 ≤ place - h - 1 := by omega
  have D0 : 0 ≤ place - M := by omega
  have kb := rs_bound (m := r) (sh := place - h) (K := F + 1) (rest := r * r != n) r0 (by omega) (by omega) (fun _ => Or.inr trivial)
  rw [pw_succ F0, ← hH] at kb
  have rr := rs_round (r := r) (sh := place - h) (n := n) sh1 hr
  simp only at rr
  generalize rs r (place - h) (r * r != n) = k at *
  obtain ⟨rA, rB, rC⟩ := rr
  have pf := pw_pos (place - h - 1)
  have hsq := sq_id hn (exp_id e1 M0 shm s2 pl1 s3)
  have sq4 : 4 ≤ 4 * (m * pw (e - M)) * pw (0 - M) := by
    have h1 : 1 * 1 ≤ m * pw (e - M) := Int.mul_le_mul m1 (pw_pos (e - M)) (by decide) (by omega)
    have h2 : (4 * 1) * 1 ≤ 4 * (m * pw (e - M)) * pw (0 - M) := Int.mul_le_mul (Int.mul_le_mul_of_nonneg_left h1 (by decide)) (pw_pos (0 - M)) (by decide) (by omega)
    exact h2
  generalize 4 * (m * pw (e - M)) * pw (0 - M) = sq at *
  have hB := canc_ge pf hsq rB
  have hCk : 0 < place - M → H ≤ k ∧ H * pw (place - h) ≤ r := fun q => k_hi hH F0 (pl3 q) sh0 rlo rC
  clear rB rC rlo pl3 s2 s3 e1 hn pl1 pl2 rb
  have k1 : 1 ≤ k := by
    by_cases q : 1 ≤ k
    · exact q
    · have k0 : k = 0 := by have := kb.1; omega
      have D1 : place - M = 0 := by
        by_cases z : 0 < place - M
        · have h1 := (hCk z).1
          have h2 := pw_pos F
          rw [← hH] at h2
          omega
        · omega
      rw [k0, D1, pw_zero] at hB
      omega
  have k2 : 0 ≤ 2 * k - 1 := by omega
  have hA := canc_le (a := 2 * k - 1) pf hsq (Int.le_trans (sq_le (Int.mul_nonneg k2 (Int.le_of_lt pf)) rA) r1)
  refine enc_near f0 hH T3 D0 k1 kb.2 hA hB (fun q => ⟨(hCk q).1, ?_⟩) top
  have hH0 : 0 ≤ 2 * H := by
    have h2 := pw_pos F
    rw [← hH] at h2
    omega
  refine canc_le pf hsq (Int.le_trans (sq_le (Int.mul_nonneg hH0 (Int.le_of_lt pf)) ?_) r1)
  have h1 := (hCk q).2
  have h2 := pw_succ (a := place - h - 1) shm
  rw [show place - h - 1 + 1 = place - h by omega] at h2
  rw [h2, ← Int.mul_assoc, Int.mul_comm H 2] at h1
  exact h1
theorem rr_main {E F T H M bits r : Int} {t : Tok} (ok : FormOk E F T H M) (hz : 0 ≤ bits) (hz1 : bits < 2 * 2 ^ (E + F).toNat) (h : nanB T H bits = false) (h2 : bits.fmod (H * 2 ^ E.toNat) ≠ 0) (h3 : (bits.fdiv H).fdiv (2 ^ E.toNat) ≠ 1) (h4 : infB T H bits = false)
    (hr : IsRoot (um T H bits * 2 ^ (SH F (bl (um T H bits)) (ue T H M bits)).toNat) r) : ∃ r' t', Value.int (pk F T H M r ((ue T H M bits - SH F (bl (um T H bits)) (ue T H M bits)).fdiv 2) (r * r != um T H bits * 2 ^ (SH F (bl (um T H bits)) (ue T H M bits)).toNat)) t = .int r' t' ∧ RootSpec E F T H M bits r' := by
  obtain ⟨b1, b2, b3, b4, b5, b6, b7⟩ := ok.bounds
  have hE : 0 ≤ E := by have := ok.e0; omega
  have hF : 0 ≤ F := by have := ok.f0; omega
  obtain ⟨sg, ex, fr, p⟩ := parts_of hE hF hz
  obtain ⟨a, b, c⟩ := p.size_le hE hF
  have hs := p.sg_le hE hF hz1
  have hH := ok.h
  have hT := ok.t
  rw [hH, pwn, p.csg] at h3
  have hs0 : sg = 0 := by omega
  rw [hs0, Int.zero_mul, Int.zero_add] at c
  have hcup := p.cup
  rw [hs0, Int.zero_mul, Int.zero_add] at hcup
  rw [hH, pwn, Int.mul_comm, ← pw_add hE hF, p.csz] at h2
  have hexT : ex ≠ T := fun q => by
    unfold nanB at h
    unfold infB at h4
    rw [hH, hT, p.cex, p.cfr, decide_eq_false_iff_not] at h h4
    exact h ⟨by omega, fun z => h4 ⟨by omega, z⟩⟩
  have hex1 : ex ≤ T - 1 := by have := p.ex1; omega
  have hex0 := p.ex0
  have hfr0 := p.fr0
  have hfr1 := p.fr1
  have hum : um T H bits = if ex = 0 then fr else H + fr := by
    unfold um
    rw [show Builtin.bitAnd (bits.fdiv H) T = ex by rw [hH, hT]; exact p.cex, show bits.fmod H = fr by rw [hH]; exact p.cfr]
  have hue : ue T H M bits = if ex = 0 then M else M + ex - 1 := by
    unfold ue
    rw [show Builtin.bitAnd (bits.fdiv H) T = ex by rw [hH, hT]; exact p.cex]
  have hun : un F bits = um T H bits * pw (ue T H M bits - M) := by
    unfold un
    rw [pwn, pwn, hcup, p.cfr, hum, hue]
    by_cases z : ex = 0
    · rw [if_pos z, if_pos z, if_pos z, show M - M = 0 by omega, pw_zero, Int.mul_one]
    · rw [if_neg z, if_neg z, if_neg z, show M + ex - 1 - M = ex - 1 by omega, hH]
  have hm1 : 1 ≤ um T H bits := by
    rw [hum]
    by_cases z : ex = 0
    · rw [if_pos z]
      rw [z, Int.zero_mul, Int.zero_add] at h2
      omega
    · rw [if_neg z]; omega
  have hm2 : um T H bits < 2 * H := by rw [hum]; split <;> omega
  have he1 : M ≤ ue T H M bits := by rw [hue]; split <;> omega
  have he2 : ue T H M bits - M ≤ T - 2 := by rw [hue]; split <;> omega
  have near := root_near ok hm1 hm2 he1 he2 hr
  rw [← hun] at near
  have hodd1 : ¬ Odd1 E F bits := fun q => by
    rw [odd1_iff p] at q
    rcases q with q | ⟨q, _⟩
    · have h5 : (ex + 1) * pw F ≤ (pw E - 1) * pw F := Int.mul_le_mul_of_nonneg_right (by omega) (Int.le_of_lt (pw_pos F))
      rw [Int.add_mul] at h5
      omega
    · omega
  have hcs : bits.fmod (2 ^ (E + F).toNat) = bits := by rw [pwn, p.csz]; exact c.symm
  obtain ⟨g1, g2, g3, g4⟩ := near
  refine ⟨_, t, rfl, ⟨Int.le_of_lt g1, fun q => absurd q hodd1, fun _ q => ?_, fun _ _ => ?_, fun _ _ => Int.ne_of_gt g1, fun _ _ => ?_, fun _ _ => ?_⟩⟩
  · rw [odd2_iff p] at q
    rcases q with q | q
    · exact absurd q h2
    · have h5 : (ex + 1) * pw F ≤ (pw E - 1) * pw F := Int.mul_le_mul_of_nonneg_right (by omega) (Int.le_of_lt (pw_pos F))
      rw [Int.add_mul] at h5
      omega
  · rw [hT, hH] at g2; rw [hT, hH]; exact g2
  · rw [hcs]; exact g3
  · rw [hcs]; exact g4

set_option maxRecDepth 100000
set_option maxHeartbeats 8000000
theorem news_d2 {h₀ h : Heap} {L : Addr} {p q r : Addr × Obj} {l : List (Addr × Obj)} (N : News h₀ L h (p :: q :: r :: l)) : News h₀ L h l := fun z hz => N z (.tail _ (.tail _ (.tail _ hz)))
theorem pe_b {M u S : Int} (h0 : -149 ≤ M) (h1 : M ≤ -1) (h2 : M ≤ u) (h3 : u ≤ M + 255) (h4 : 0 ≤ S) (h5 : S ≤ 60) : -400 ≤ (u - S).fdiv 2 ∧ (u - S).fdiv 2 ≤ 400 := by
  obtain ⟨a, b⟩ := fdiv_bounds (u - S) (show (0:Int) < 2 by decide)
  omega
theorem rr_walk : Seen PySem.Challenge.rw_pb0323_01 hd.heap_39 (∀ (w : World) (mean : ExcName → Option Value) (mg mb : Str → Option Value) (news : List (Addr × Obj)) (x : Addr) (E F T H M bits : Int) (tz : Tok),
    IsForm w news x E F T H M → 0 ≤ bits → bits < 2 * 2 ^ (E + F).toNat →
    Con w mean mg mb 141 40 400 [.ref x, .int bits tz] news (fun v nx => nx = news ∧ ∃ r t, v = .int r t ∧ RootSpec E F T H M bits r)) := by
  k_with_none
  k_fill
  unfold Seen
  intro w mean mg mb news₀ x E F T H M bits tz hF hz0 hz1 dp un' gd cn cs a ccd cl outer A₀ base h₀ L mm s Q E' B F' X N T' hk hd hu hret
  have hF8 := hF
  obtain ⟨ok, dx, k1, k2, k3, k4, k5, k6, t1, t2, t3, t4, t5, t6, B', n₀, hx, hdx⟩ := hF
  obtain ⟨b1, b2, b3, b4, b5, b6, b7⟩ := ok.bounds
  have N := news_cons (news_cons N hdx) (List.mem_cons_of_mem _ hx)
  have hF9 : IsForm w [(x, instObj 31 dx), (dx, FD w k1 k2 k3 k4 k5 k6 t1 t2 t3 t4 t5 t6 E F B' T H M n₀)] x E F T H M := ⟨ok, dx, k1, k2, k3, k4, k5, k6, t1, t2, t3, t4, t5, t6, B', n₀, .head _, .tail _ (.head _)⟩
  have hum := um_facts ok hz0
  obtain ⟨e0, e1, f0, f1, eT, eH, eM⟩ := ok
  have hp0 : 0 < H := by omega
  obtain ⟨hm0, hm1, hm2, hm3, hm4, hm5⟩ := hum
  have hsh := SH_b (e := ue T H M bits) f0 f1 hm5 hm4
  obtain ⟨hs0, hs1⟩ := hsh
  have hsc := sc_b hm0 (show um T H bits < 16777216 by omega) hs1
  obtain ⟨hc0, hc1, hc2⟩ := hsc
  have hpe := pe_b b5 b6 hm2 hm3 hs0 hs1
  obtain ⟨hpe0, hpe1⟩ := hpe
  have ok : FormOk E F T H M := ⟨e0, e1, f0, f1, eT, eH, eM⟩
  have hHE : H * 2 ^ E.toNat ≠ 0 := Int.ne_of_gt (Int.mul_pos hp0 (pw_pos E))
  refine wpAny_call ?_
  k_dflt cell_enter
  (k_with "call ref" =>
      (with_reducible show wpAny _ _ (call (Value.ref 77) _) _ _ _)
      k_dflt
       refine' con_use0 (in_walk w mean mg mb _ x E F T H M bits _ ?kp hz0) ?k1 ?k2 ?k3 ?k4 ?k5 ?kK ?kd ?ku ?_
      (case k1 => k_asm)
      (case k2 => k_asm)
      (case k3 => k_asm)
      (case k4 => k_asm)
      (case kp => exact hF9.mono (by kcj_all))
      (case k5 => k_asm)
      (case kK => first | exact rfl | assumption)
      (case kd => ktr_room)
      (case ku => ktr_units)
      rintro v9 nx9 h9 tk9 ⟨rfl, rfl⟩ F9 N9
      (try dsimp only)
      (try k_fold))
  (k_with "call ref" =>
      (with_reducible show wpAny _ _ (call (Value.ref 84) _) _ _ _)
      k_dflt
       refine' con_use0 (ii_walk w mean mg mb _ x E F T H M bits _ ?kp hz0) ?k1 ?k2 ?k3 ?k4 ?k5 ?kK ?kd ?ku ?_
      (case k1 => k_asm)
      (case k2 => k_asm)
      (case k3 => k_asm)
      (case k4 => k_asm)
      (case kp => exact hF9.mono (by kcj_all))
      (case k5 => k_asm)
      (case kK => first | exact rfl | assumption)
      (case kd => ktr_room)
      (case ku => ktr_units)
      rintro v9 nx9 h9 tk9 ⟨rfl, rfl⟩ F9 N9
      (try dsimp only)
      (try k_fold))
  (k_with "call ref" =>
      (with_reducible show wpAny _ _ (call (Value.ref 98) _) _ _ _)
      k_dflt
       refine' con_use0 (so_walk w mean mg mb _ x E F T H M bits _ ?kp hz0) ?k1 ?k2 ?k3 ?k4 ?k5 ?kK ?kd ?ku ?_
      (case k1 => k_asm)
      (case k2 => k_asm)
      (case k3 => k_asm)
      (case k4 => k_asm)
      (case kp => exact hF9.mono (by kcj_all))
      (case k5 => k_asm)
      (case kK => first | exact rfl | assumption)
      (case kd => ktr_room)
      (case ku => ktr_units)
      rintro v9 nx9 h9 tk9 ⟨rfl, t9, rfl⟩ F9 N9
      (try dsimp only)
      (try k_fold))
  (k_with "call ref" =>
      (with_reducible show wpAny _ _ (call (Value.ref 105) _) _ _ _)
      k_dflt
       refine' con_use0 (up_walk w mean mg mb _ x E F T H M bits _ ?kp hz0) ?k1 ?k2 ?k3 ?k4 ?k5 ?kK ?kd ?ku ?_
      (case k1 => k_asm)
      (case k2 => k_asm)
      (case k3 => k_asm)
      (case k4 => k_asm)
      (case kp => exact hF9.mono (by kcj_all))
      (case k5 => k_asm)
      (case kK => first | exact rfl | assumption)
      (case kd => ktr_room)
      (case ku => ktr_units)
      rintro v9 nx9 h9 tk9 ⟨d9, u1, u2, u3, rfl, rfl⟩ F9 N9
      dsimp only [tup3] at N9
      (try dsimp only)
      (try k_fold))
  (k_with "call ref" =>
      (with_reducible show wpAny _ _ (call (Value.ref 112) _) _ _ _)
      k_dflt
       refine' con_use0 (bc_walk w mean mg mb _ _ _ ?kp) ?k1 ?k2 ?k3 ?k4 ?k5 ?kK ?kd ?ku ?_
      (case k1 => k_asm)
      (case k2 => k_asm)
      (case k3 => k_asm)
      (case k4 => k_asm)
      (case kp => first | assumption | omega)
      (case k5 => k_asm)
      (case kK => first | exact rfl | assumption)
      (case kd => ktr_room)
      (case ku => ktr_units)
      rintro v9 nx9 h9 tk9 ⟨rfl, t9, rfl⟩ F9 N9
      (try dsimp only)
      (try k_fold))
  (k_with "call ref" =>
      (with_reducible show wpAny _ _ (call (Value.ref 134) _) _ _ _)
      k_dflt
       refine' con_use0 (wr_walk w mean mg mb _ _ _ ?kp ?kq) ?k1 ?k2 ?k3 ?k4 ?k5 ?kK ?kd ?ku ?_
      (case k1 => k_asm)
      (case k2 => k_asm)
      (case k3 => k_asm)
      (case k4 => k_asm)
      (case kp => k_dflt (exact hc0))
      (case kq => k_dflt (exact hc2))
      (case k5 => k_asm)
      (case kK => first | exact rfl | assumption)
      (case kd => ktr_room)
      (case ku => ktr_units)
      rintro v9 nx9 h9 tk9 ⟨rfl, r9, t9, rfl, hr9⟩ F9 N9
      (k_dflt (have hr8 := rt_b hr9 hc1))
      obtain ⟨hr5, hr6, hr7⟩ := hr8
      (try dsimp only)
      (try k_fold))
  (k_with "binaryOp Mod int int" =>
      (with_reducible refine mod_int' ?kbe ?_)
      (case kbe => first | assumption | omega))
  (k_with "call ref" =>
      (with_reducible show wpAny _ _ (call (Value.ref 127) _) _ _ _)
      k_dflt
       refine' con_use0 (pk_walk w mean mg mb _ x E F T H M _ _ _ _ _ _ _ (Or.inl rfl) ?kp hr5 hr6 ?kq ?kr) ?k1 ?k2 ?k3 ?k4 ?k5 ?kK ?kd ?ku ?_
      (case k1 => k_asm)
      (case k2 => k_asm)
      (case k3 => k_asm)
      (case k4 => k_asm)
      (case kp => exact hF9.mono (by kcj_all))
      (case kq => k_dflt (exact hpe0))
      (case kr => k_dflt (exact hpe1))
      (case k5 => k_asm)
      (case kK => first | exact rfl | assumption)
      (case kd => ktr_room)
      (case ku => ktr_units)
      rintro v9 nx9 h9 tk9 ⟨rfl, t9, rfl⟩ F9 N9
      (try dsimp only)
      (try k_fold))
  (k_with "call ref" =>
      (with_reducible show wpAny _ _ (call (Value.ref 63) _) _ _ _)
      k_dflt
       refine' con_use0 (nn_walk w mean mg mb _ x E F T H M ?kp) ?k1 ?k2 ?k3 ?k4 ?k5 ?kK ?kd ?ku ?_
      (case k1 => k_asm)
      (case k2 => k_asm)
      (case k3 => k_asm)
      (case k4 => k_asm)
      (case kp => exact hF9.mono (by kcj_all))
      (case k5 => k_asm)
      (case kK => first | exact rfl | assumption)
      (case kd => ktr_room)
      (case ku => ktr_units)
      rintro v9 nx9 h9 tk9 ⟨rfl, t9, rfl⟩ F9 N9
      (try dsimp only)
      (try k_fold))
  k_steps
  all_goals (refine hret _ _ _ _ ⟨rfl, ?_⟩ (by assumption) (by first | exact news_tl2 (by assumption) | exact news_d2 (by assumption)))
  all_goals (first | exact rr_nan ok hz0 (by assumption) | exact rr_sg ok hz0 hz1 (by assumption) (by assumption) (by assumption) | exact rr_zero ok hz0 hz1 (by assumption) (by assumption) | exact rr_inf ok hz0 hz1 (by assumption) (by assumption) (by assumption) (by assumption) | exact rr_main ok hz0 hz1 (by assumption) (by assumption) (by assumption) (by assumption) hr9)

set_option maxRecDepth 100000
set_option maxHeartbeats 8000000

abbrev LawLed (p D : Addr) (ws : List Value) (n1 n2 : Nat) (c : Int × Tok × Int × Tok) : List (Addr × Obj) := [(p, listOf [Value.ref D, Value.int c.1 c.2.1, Value.int c.2.2.1 c.2.2.2].toArray n1), (D, listOf ws.toArray n2)]
abbrev LawSt : List Str := [Str.ofString "form", Str.ofString "span", Str.ofString "side", Str.ofString "bits", Str.ofString "exact", Str.ofString "found"]
abbrev LawP (pre : List Int) (c : Int × Tok × Int × Tok) : Prop := 0 ≤ c.1 ∧ c.1 ≤ 200 * (pre.length : Int) ∧ 0 ≤ c.2.2.1 ∧ c.2.2.1 < 10 ^ 60
theorem law_range {prog : Program} {w : World} {A : Around} {E : Value → Shared → Prop} {s : Shared} {env : Env} {h₀ : Heap} {x : Str} {body : List Stmt} {Q : Flow → Shared → Prop} {r p D : Addr} {ws : List Value} {t1 t2 : Tok} {n1 n2 : Nat} {rest : List (Addr × Obj)} {t₀ u₀ v₀ : Tok} {m₀ : Str → Option Value}
    {ns : List Int} (hh : A.handled = none) (hr : IsRange s.heap r 0 4 1 t₀ u₀ v₀) (F : Fr h₀ env.locals s.heap m₀)
    (N : News h₀ env.locals s.heap ((p, listOf [Value.ref D, Value.int 0 t1, Value.int 0 t2].toArray n1) :: (D, listOf ws.toArray n2) :: rest))
    (hI : IntsAre ws ns) (hl : 0 < ns.length) (hl1 : ns.length < 2 ^ 62) (hD : D ≠ p)
    (turn : 0 < ns.length → ns.length < 2 ^ 62 → D ≠ p → IntsAre ws ns → ∀ (sp : Int) (t1 : Tok) (hld : Int) (t2 : Tok) (pre : List Int) (k : Int) (t : Tok) (u : Str → Option Value) (h : Heap) (tk : Nat) (own : List (Addr × Obj)), pre.length < 4 → OwnOff own [p, D] → 0 ≤ sp → sp ≤ 200 * (pre.length : Int) → 0 ≤ hld → hld < 10 ^ 60 →
      Fr h₀ env.locals h (fun y => if y = x then some (.int k t) else if LawSt.contains y then u y else m₀ y) → News h₀ env.locals h ((p, listOf [Value.ref D, Value.int sp t1, Value.int hld t2].toArray n1) :: (D, listOf ws.toArray n2) :: own) →
      wpAny (model prog w) A (execs body env) (InvPostN h₀ env.locals (KstS (LawLed p D ws n1 n2) (fun _ => []) (fun _ => True) x LawSt m₀ LawP (pre ++ [k])) own [p, D] { s with heap := h, toks := tk } Q) E { s with heap := h, toks := tk })
    (done : ∀ (u : Str → Option Value) (h : Heap) (tk : Nat), Fr h₀ env.locals h (fun y => if y = x then u y else if LawSt.contains y then u y else m₀ y) → News h₀ env.locals h [] → Q .next { s with heap := h, toks := tk }) :
    wpAny (model prog w) A (pyIter (.ref r)) (fun it s₂ => LoopAtV prog w A h₀ env x body Q E it s₂) E s := by
  refine kst_range (n := 4) (LawLed p D ws n1 n2) (fun _ => []) (fun _ => True) LawSt LawP (0, t1, 0, t2) hh hr (by decide) (by decide) F (fun q hq => N q ?_) trivial (fun _ h => nomatch h) ⟨Int.le_refl _, by show (0:Int) ≤ 200 * 0; decide, Int.le_refl _, by show (0:Int) < 10 ^ 60; decide⟩ ?_ ?_
  · rcases List.mem_cons.mp hq with rfl | hq
    · exact .head _
    · rcases List.mem_cons.mp hq with rfl | hq
      · exact .tail _ (.head _)
      · cases hq
  · rintro ⟨sp, t1, hld, t2⟩ pre k t u h tk own _ hlt hoff _ ⟨a1, a2, a3, a4⟩ F9 N9
    exact turn hl hl1 hD hI sp t1 hld t2 pre k t u h tk own hlt hoff a1 a2 a3 a4 F9 N9
  · rintro c u h tk _ _ F9 _
    exact done u h tk F9 News.nil


section
variable {w : World} {mean : ExcName → Option Value} {mg mb : Str → Option Value} {p D x dx : Addr} {ws : List Value} {ns : List Int} {nn n1 : Nat} {sp hld most : Int} {t1 t2 tm : Tok} {rest : List (Addr × Obj)} {q1 q2 : Addr × Obj}
theorem dg_use (hI : IntsAre ws ns) (hl : 0 < ns.length) (hl1 : ns.length < 2 ^ 62) (hD : D ≠ p) (hr : ∀ q ∈ rest, q.1 ≠ p) (h0 : 0 ≤ sp) (h1 : sp < 2 ^ 40) (h2 : 0 ≤ hld) (h3 : hld < 10 ^ 60) (h4 : 0 < most) (h5 : most ≤ 2 ^ 20) :
    Con w mean mg mb 155 10 100 [.ref p, .int most tm] ((p, listOf [Value.ref D, Value.int sp t1, Value.int hld t2].toArray n1) :: (D, listOf ws.toArray nn) :: rest) (DgPost p D ws nn n1 rest sp most) :=
  dg_walk w mean mg mb p D ws ns nn n1 sp hld most t1 t2 tm rest hI hl hl1 hD hr h0 h1 h2 h3 h4 h5
theorem wd_use (hI : IntsAre ws ns) (hl : 0 < ns.length) (hl1 : ns.length < 2 ^ 62) (hD : D ≠ p) (hr : ∀ q ∈ rest, q.1 ≠ p) (h0 : 0 ≤ sp) (h1 : sp < 2 ^ 39) (h2 : 0 ≤ hld) (h3 : hld < 10 ^ 60) (h4 : 0 < most) (h5 : most ≤ 2 ^ 400) :
    Con w mean mg mb 162 20 200 [.ref p, .int most tm] ((p, listOf [Value.ref D, Value.int sp t1, Value.int hld t2].toArray n1) :: (D, listOf ws.toArray nn) :: rest) (DgPost p D ws nn n1 rest (sp + 20) most) :=
  wd_walk w mean mg mb p D ws ns nn n1 sp hld most t1 t2 tm rest hI hl hl1 hD hr h0 h1 h2 h3 h4 h5
abbrev DgPost2 (p D : Addr) (ws : List Value) (nn n1 : Nat) (q1 q2 : Addr × Obj) (rest : List (Addr × Obj)) (sp most : Int) (v : Value) (nx : List (Addr × Obj)) : Prop :=
  ∃ (r sp' hd' : Int) (t t1' t2' : Tok), v = .int r t ∧ nx = q1 :: q2 :: (p, listOf [Value.ref D, Value.int sp' t1', Value.int hd' t2'].toArray n1) :: (D, listOf ws.toArray nn) :: rest ∧ 0 ≤ r ∧ r < most ∧ 0 ≤ sp' ∧ sp' ≤ sp + 1 ∧ 0 ≤ hd' ∧ hd' < 10 ^ 60
theorem perm_in {a b c d : Addr × Obj} {l : List (Addr × Obj)} : ∀ q ∈ a :: b :: c :: d :: l, q ∈ c :: d :: a :: b :: l := by
  intro q hq
  simp only [List.mem_cons] at hq ⊢
  rcases hq with h | h | h | h | h
  · exact .inr (.inr (.inl h))
  · exact .inr (.inr (.inr (.inl h)))
  · exact .inl h
  · exact .inr (.inl h)
  · exact .inr (.inr (.inr (.inr h)))
theorem con_perm {f : Addr} {DD U : Nat} {vs : List Value} {c d : Addr × Obj} (C : Con w mean mg mb f DD U vs (c :: d :: q1 :: q2 :: rest) (DgPost p D ws nn n1 (q1 :: q2 :: rest) sp most)) : Con w mean mg mb f DD U vs (q1 :: q2 :: c :: d :: rest) (DgPost2 p D ws nn n1 q1 q2 rest sp most) := by
  intro dp un gd cn cs a ccd cl outer A₀ base h₀ L m s Q E B F X N T hk hd hu hret
  refine C dp un gd cn cs a ccd cl outer A₀ base h₀ L m s Q E B F X (fun q hq => N q (perm_in q hq)) T hk hd hu ?_
  rintro v nx h' tk' ⟨r, sp', hd', t, t1', t2', e1, e2, h1, h2, h3, h4, h5, h6⟩ F' N'
  refine hret v _ h' tk' ⟨r, sp', hd', t, t1', t2', e1, rfl, h1, h2, h3, h4, h5, h6⟩ F' (fun q hq => ?_)
  rw [e2] at N'
  exact N' q (perm_in q hq)
theorem ne_cons {q : Addr × Obj} {l : List (Addr × Obj)} (h : q.1 ≠ p) (hl : ∀ z ∈ l, z.1 ≠ p) : ∀ z ∈ q :: l, z.1 ≠ p := fun z hz => by
  rcases List.mem_cons.mp hz with rfl | hz
  · exact h
  · exact hl z hz
theorem dg_use2 (hI : IntsAre ws ns) (hl : 0 < ns.length) (hl1 : ns.length < 2 ^ 62) (hD : D ≠ p) (hr : ∀ q ∈ rest, q.1 ≠ p) (g1 : q1.1 ≠ p) (g2 : q2.1 ≠ p) (h0 : 0 ≤ sp) (h1 : sp < 2 ^ 40) (h2 : 0 ≤ hld) (h3 : hld < 10 ^ 60) (h4 : 0 < most) (h5 : most ≤ 2 ^ 20) :
    Con w mean mg mb 155 10 100 [.ref p, .int most tm] (q1 :: q2 :: (p, listOf [Value.ref D, Value.int sp t1, Value.int hld t2].toArray n1) :: (D, listOf ws.toArray nn) :: rest) (DgPost2 p D ws nn n1 q1 q2 rest sp most) :=
  con_perm (dg_use hI hl hl1 hD (ne_cons g1 (ne_cons g2 hr)) h0 h1 h2 h3 h4 h5)
theorem wd_use2 (hI : IntsAre ws ns) (hl : 0 < ns.length) (hl1 : ns.length < 2 ^ 62) (hD : D ≠ p) (hr : ∀ q ∈ rest, q.1 ≠ p) (g1 : q1.1 ≠ p) (g2 : q2.1 ≠ p) (h0 : 0 ≤ sp) (h1 : sp < 2 ^ 39) (h2 : 0 ≤ hld) (h3 : hld < 10 ^ 60) (h4 : 0 < most) (h5 : most ≤ 2 ^ 400) :
    Con w mean mg mb 162 20 200 [.ref p, .int most tm] (q1 :: q2 :: (p, listOf [Value.ref D, Value.int sp t1, Value.int hld t2].toArray n1) :: (D, listOf ws.toArray nn) :: rest) (DgPost2 p D ws nn n1 q1 q2 rest (sp + 20) most) :=
  con_perm (wd_use hI hl hl1 hD (ne_cons g1 (ne_cons g2 hr)) h0 h1 h2 h3 h4 h5)
variable {E F T H M n bits found : Int} {tn tf : Tok} {news : List (Addr × Obj)} {k1 k2 k3 k4 k5 k6 u1 u2 u3 u4 u5 u6 : Tok} {B : Int} {nd : Nat}
theorem isform_of (ok : FormOk E F T H M) (h1 : (x, instObj 31 dx) ∈ news) (h2 : (dx, FD w k1 k2 k3 k4 k5 k6 u1 u2 u3 u4 u5 u6 E F B T H M nd) ∈ news) : IsForm w news x E F T H M :=
  ⟨ok, dx, k1, k2, k3, k4, k5, k6, u1, u2, u3, u4, u5, u6, B, nd, h1, h2⟩
theorem fi_use (hF : IsForm w news x E F T H M) (h0 : 0 ≤ n) (h1 : n < 2 ^ 64) : Con w mean mg mb 148 30 300 [.ref x, .int n tn] news (fun v nx => nx = news ∧ ∃ t, v = .int (pk F T H M n 0 false) t) :=
  fi_walk w mean mg mb news x E F T H M n tn hF h0 h1
theorem rr_use (hF : IsForm w news x E F T H M) (h0 : 0 ≤ bits) (h1 : bits < 2 * 2 ^ (E + F).toNat) : Con w mean mg mb 141 40 400 [.ref x, .int bits tn] news (fun v nx => nx = news ∧ ∃ r t, v = .int r t ∧ RootSpec E F T H M bits r) :=
  rr_walk w mean mg mb news x E F T H M bits tn hF h0 h1
theorem lr_use (hF : IsForm w news x E F T H M) (h0 : 0 ≤ bits) (hS : RootSpec E F T H M bits found) : Con w mean mg mb 176 30 300 [.ref x, .int bits tn, .int found tf] news (fun v nx => nx = news ∧ v = .bool true) :=
  lr_walk w mean mg mb news x E F T H M bits found tn tf hF h0 hS
theorem wr_use (h0 : 0 ≤ n) (h1 : n < pw 4000) : Con w mean mg mb 134 20 200 [.int n tn] news (fun v nx => nx = news ∧ ∃ r t, v = .int r t ∧ IsRoot n r) :=
  wr_walk w mean mg mb news n tn h0 h1
end
theorem ok_raw {a b : Int} (ha1 : a < 7) (hb1 : b < 23) (ha : 0 ≤ a) (hb : 0 ≤ b) : FormOk (2 + a) (1 + b) (1 * 2 ^ (2 + a).toNat - 1) (1 * 2 ^ (1 + b).toNat) (1 - (1 * 2 ^ (2 + a - 1).toNat - 1) - (1 + b)) :=
  ⟨by omega, by omega, by omega, by omega, by rw [Int.one_mul]; rfl, by rw [Int.one_mul]; rfl, by rw [Int.one_mul]; show 1 - (pw (2 + a - 1) - 1) - (1 + b) = _; omega⟩
theorem wp1 (n : Int) : (0 : Int) < 2 ^ n.toNat := pw_pos n
theorem wp2 (n : Int) : (0 : Int) < 2 * 2 ^ n.toNat := by have := wp1 n; omega
theorem wm1 {n : Int} (h : n ≤ 399) : (2 : Int) ^ n.toNat ≤ 2 ^ 400 := pw_le (a := n) (b := 400) (by omega)
theorem wm2 {n : Int} (h : n ≤ 399) : (2 : Int) * 2 ^ n.toNat ≤ 2 ^ 400 := by
  have h1 : pw n ≤ pw 399 := pw_le (by omega)
  have h2 : pw 400 = 2 * pw 399 := pw_succ (a := 399) (by decide)
  have h3 : pw 400 = 2 ^ 400 := rfl
  have h4 : pw n = 2 ^ n.toNat := rfl
  omega
theorem ds1 (n : Int) : (1 : Int) < 2 * 2 ^ n.toNat := by have := wp1 n; omega
theorem dss (n : Int) : (2 : Int) ^ n.toNat < 2 * 2 ^ n.toNat := by have := wp1 n; omega
theorem dsw {r n : Int} (h : r < 2 ^ n.toNat) : r < 2 * 2 ^ n.toNat := by have := wp1 n; omega
theorem ex_b {r n : Int} (h : r < 2 ^ n.toNat) (hn : n ≤ 399) : r < pw 400 ∧ r < pw 4000 := by
  have h1 : pw n ≤ pw 400 := pw_le (by omega)
  have h2 : pw 400 ≤ pw 4000 := pw_le (by omega)
  have h4 : pw n = 2 ^ n.toNat := rfl
  omega
theorem r_b {n r : Int} (h : IsRoot n r) (hn : n < pw 400) : 0 ≤ r ∧ r < pw 400 ∧ r * r ≤ n ∧ n < (r + 1) * (r + 1) := by
  obtain ⟨h0, h1, h2⟩ := h
  refine ⟨h0, ?_, h1, h2⟩
  by_cases q : r = 0
  · subst q; exact pw_pos 400
  · have := Int.mul_le_mul_of_nonneg_right (show 1 ≤ r by omega) h0
    omega
theorem mul1 {r : Int} (h0 : 0 ≤ r) (h1 : r < pw 400) : IntMulOk r r := by
  have := pw_400
  exact mulok h0 (by omega) h0 (by omega)
theorem mul2 {r : Int} (h0 : 0 ≤ r) (h1 : r < pw 400) : IntMulOk (r + 1) (r + 1) := by
  have := pw_400
  exact mulok (by omega) (by omega) (by omega) (by omega)
theorem side_b {r : Int} (h0 : 0 ≤ r) (h1 : r < 30) : r * r < 2 ^ 64 := by
  have := Int.mul_le_mul (show r ≤ 30 by omega) (show r ≤ 30 by omega) h0 (by decide)
  omega


theorem law_tup {prog : Program} {w : World} {A : Around} {E : Value → Shared → Prop} {s : Shared} {env : Env} {h₀ : Heap} {x : Str} {body : List Stmt} {Q : Flow → Shared → Prop} {ax : Addr} {vs : List Value} {n : Nat} {news : List (Addr × Obj)} {m₀ : Str → Option Value} {E' F' T H M : Int}
    (_ok : FormOk E' F' T H M) (hh : A.handled = none) (F : Fr h₀ env.locals s.heap m₀)
    (N : News h₀ env.locals s.heap ((ax, ({ cls := .type "tuple", data := .seq vs.toArray n } : Obj)) :: news)) (hax : ∀ q ∈ news, q.1 ≠ ax)
    (hP : ∀ v ∈ vs, ∃ b t, v = Value.int b t ∧ 0 ≤ b ∧ b < 2 * 2 ^ (E' + F').toNat)
    (turn : ∀ (b : Int) (t : Tok) (h : Heap) (tk : Nat) (own : List (Addr × Obj)), 0 ≤ b → b < 2 * 2 ^ (E' + F').toNat →
      Fr h₀ env.locals h (fun y => if y = x then some (.int b t) else m₀ y) → News h₀ env.locals h (news ++ own) →
      wpAny (model prog w) A (execs body env) (InvPostN h₀ env.locals (fun m' nx => nx = news ∧ ∀ z, z ≠ x → m' z = m₀ z) own (news.map (·.1)) { s with heap := h, toks := tk } Q) E { s with heap := h, toks := tk })
    (done : ∀ (u : Str → Option Value) (h : Heap) (tk : Nat), Fr h₀ env.locals h (fun y => if y = x then u y else m₀ y) → News h₀ env.locals h news → Q .next { s with heap := h, toks := tk }) :
    wpAny (model prog w) A (pyIter (.ref ax)) (fun it s₂ => LoopAtV prog w A h₀ env x body Q E it s₂) E s := by
  have hax0 := N _ (.head _)
  have ht : s.heap.IsTuple ax vs.toArray := ⟨_, hax0.1, rfl, n, rfl⟩
  have hlt : ax < s.heap.objs.size := Heap.lt_size hax0.1
  have hne : ax ≠ s.heap.objs.size := Nat.ne_of_lt hlt
  refine wpAny_pyIter_tuple ht ?_
  have W := Walks.tuple (prog := prog) (w := w) hh s.heap.objs.size ax hne vs.toArray
  have hnew := next_is_new F
  refine loop_invN (news := news) (fun _ m' nx => nx = news ∧ ∀ z, z ≠ x → m' z = m₀ z) W ?_ ?_ ?_ ?_ ⟨⟨_, Heap.get?_push_size _ rfl, rfl, rfl⟩, ht.at fun o e => Heap.get?_push_of_some _ e⟩ (F.push _) (fun p hp => ⟨Heap.get?_push_of_some _ (N p (.tail _ hp)).1, (N p (.tail _ hp)).2⟩) ⟨rfl, fun _ _ => rfl⟩ ?_ ?_
  · intro hm
    rcases List.mem_cons.mp hm with e | hm
    · exact absurd F.ns.lt (e ▸ Nat.lt_irrefl _)
    · exact hax0.2.1 (List.mem_singleton.mp hm).symm
  · intro b hb
    rw [List.mem_singleton.mp hb]
    exact hnew
  · intro p hp hI
    exact absurd (Heap.lt_size (N p (.tail _ hp)).1) ((List.mem_singleton.mp hI) ▸ Nat.lt_irrefl _)
  · intro q hq hm
    rcases List.mem_cons.mp hm with e | hm
    · exact absurd (Heap.lt_size (N q (.tail _ hq)).1) (e ▸ Nat.lt_irrefl _)
    · exact hax q hq (List.mem_singleton.mp hm)
  · rintro i v m₁ news₁ h tk own hi hv _ _ ⟨rfl, hm⟩ F₁ N₁
    have hv' : v ∈ vs := by
      have : vs[i]? = some v := by simpa using hv
      exact List.mem_of_getElem? this
    obtain ⟨b, t, rfl, h0, h1⟩ := hP v hv'
    refine turn b t h tk own h0 h1 ?_ N₁
    have e : (fun y => if y = x then some (Value.int b t) else m₀ y) = fun y => if y = x then some (Value.int b t) else m₁ y := by
      funext y
      by_cases q : y = x
      · rw [if_pos q, if_pos q]
      · rw [if_neg q, if_neg q, hm y q]
    rw [e]
    exact F₁
  · rintro m₁ news₁ h tk ⟨rfl, hm⟩ F₁ N₁
    refine done m₁ h tk ?_ N₁
    have e : (fun y => if y = x then m₁ y else m₀ y) = m₁ := by
      funext y
      by_cases q : y = x
      · rw [if_pos q]
      · rw [if_neg q, hm y q]
    rw [e]
    exact F₁
local macro_rules | `(tactic| walk_at "exec For Name Tuple cons nil") => `(tactic| (k_here; (rename Fr _ _ _ _ => lF'); (with_unfolding_all refine' For_invVF lF' ?k1 ?k2 ?_; (case k1 => exact rfl); (case k2 => exact rfl); k_whole)))
theorem law_walk : PySem.Challenge.rw_pb0323_01.Holds := by
  k_with_none
  refine hd ?_
  k_go0
  (all_goals try k_fold)
  (k_with "pyIter ref" =>
      k_dflt refine' law_range ?kh ?kr ?kf ?kn ?hI ?hl ?hl1 ?hD ?lawTurn ?lawDone
      case kh => k_dflt exact rfl
      case kr => k_dflt assumption
      case kf => k_dflt assumption
      case kn => k_dflt assumption
      case hI => k_dflt assumption
      case hl => (simp only [List.length_take, List.length_append, List.length_cons, List.length_nil]; omega)
      case hl1 => (simp only [List.length_take, List.length_append, List.length_cons, List.length_nil]; omega)
      case hD => k_ne
      case' lawTurn => intro hl9 hl8 hD9 hI9 sp9 t19 hld9 t29 pre9 k9 tk9 u9 h9 tkk9 own9 hlt9 hoff9 hsp0 hsp1 hh0 hh1 kFr kNews
      case' lawDone => intro u9 h9 tk9 kFr kNews
      all_goals have kMark := kstMark
      all_goals try k_fold)
  (k_with "pyIter ref" =>
     k_dflt (
      refine' law_tup hok9 ?kh ?kf ?kn ?kx ?kP ?tupTurn ?tupDone
      case kh => exact rfl
      case kf => assumption
      case kn => assumption
      case kx => k_all
      case kP =>
        refine List.forall_mem_cons.mpr ⟨⟨_, _, rfl, by assumption, dsw (by assumption)⟩, ?_⟩
        refine List.forall_mem_cons.mpr ⟨⟨_, _, rfl, by assumption, by assumption⟩, ?_⟩
        refine List.forall_mem_cons.mpr ⟨⟨_, _, rfl, by decide, wp2 _⟩, ?_⟩
        refine List.forall_mem_cons.mpr ⟨⟨_, _, rfl, Int.le_of_lt (wp1 _), dss _⟩, ?_⟩
        refine List.forall_mem_cons.mpr ⟨⟨_, _, rfl, by decide, ds1 _⟩, ?_⟩
        refine List.forall_mem_cons.mpr ⟨⟨_, _, rfl, (fi_b hok9 (Int.mul_nonneg (by assumption) (by assumption)) (side_b (by assumption) (by assumption))).1, (fi_b hok9 (Int.mul_nonneg (by assumption) (by assumption)) (side_b (by assumption) (by assumption))).2⟩, ?_⟩
        exact List.forall_mem_nil _
      case' tupTurn =>
        intro b9 tb9 h9 tk9 own8 hb0 hb1 kFr kNews
        simp only [List.cons_append, List.nil_append] at kNews
      case' tupDone => intro u8 h8 tk8 kFr kNews
      all_goals try k_fold))
  (k_with "InvEndN" => k_dflt (exact InvEndN.intro (by assumption) (by assumption) ⟨rfl, fun z hz => if_neg hz⟩ rfl (by kcj_all) (by kcj_all)))
  (k_with "call ref" =>
     k_dflt (
      (with_reducible show wpAny _ _ (call (Value.ref 155) _) _ _ _)
      first
      | k_dflt refine' con_use0 (dg_use ?hI ?hl ?hl1 ?hD ?hr ?h0 ?h1 ?h2 ?h3 ?h4 ?h5) ?k1 ?k2 ?k3 ?k4 ?k5 ?kK ?kd ?ku ?_
        case k1 => k_dflt k_asm
        case k2 => k_dflt k_asm
        case k3 => k_dflt k_asm
        case k4 => k_dflt k_asm
        case hI => exact hI9
        case hl => exact hl9
        case hl1 => exact hl8
        case hD => exact hD9
        case hr => k_dflt k_all
        case h0 => first | assumption | omega
        case h1 => omega
        case h2 => assumption
        case h3 => assumption
        case h4 => omega
        case h5 => omega
        case k5 => k_dflt k_asm
        case kK => k_dflt first | exact rfl | assumption
        case kd => k_dflt ktr_room
        case ku => k_dflt ktr_units
      | k_dflt refine' con_use0 (dg_use2 ?hI ?hl ?hl1 ?hD ?hr ?g1 ?g2 ?h0 ?h1 ?h2 ?h3 ?h4 ?h5) ?k1 ?k2 ?k3 ?k4 ?k5 ?kK ?kd ?ku ?_
        case k1 => k_dflt k_asm
        case k2 => k_dflt k_asm
        case k3 => k_dflt k_asm
        case k4 => k_dflt k_asm
        case hI => exact hI9
        case hl => exact hl9
        case hl1 => exact hl8
        case hD => exact hD9
        case hr => k_dflt k_all
        case g1 => k_ne
        case g2 => k_ne
        case h0 => first | assumption | omega
        case h1 => omega
        case h2 => assumption
        case h3 => assumption
        case h4 => omega
        case h5 => omega
        case k5 => k_dflt k_asm
        case kK => k_dflt first | exact rfl | assumption
        case kd => k_dflt ktr_room
        case ku => k_dflt ktr_units
      | k_dflt refine' con_use (dg_use (rest := own9) ?hI ?hl ?hl1 ?hD ?hr ?h0 ?h1 ?h2 ?h3 ?h4 ?h5) ?k1 ?k2 ?k3 ?k4 ?kn ?k5 ?kK ?kd ?ku ?_
        case k1 => k_dflt k_asm
        case k2 => k_dflt k_asm
        case k3 => k_dflt k_asm
        case k4 => k_dflt k_asm
        case kn => k_dflt kcj_all
        case hI => exact hI9
        case hl => exact hl9
        case hl1 => exact hl8
        case hD => exact hD9
        case hr => k_dflt k_all
        case h0 => first | assumption | omega
        case h1 => omega
        case h2 => assumption
        case h3 => assumption
        case h4 => omega
        case h5 => omega
        case k5 => k_dflt k_asm
        case kK => k_dflt first | exact rfl | assumption
        case kd => k_dflt ktr_room
        case ku => k_dflt ktr_units
      rintro v9 nx9 h9 tk9 ⟨r9, sp9, hld9, t9, t19, t29, rfl, rfl, b1, b2, b3, b4, b5, b6⟩ F9 N9
      (try k_dflt have hok9 := ok_raw (by assumption) (by assumption) (by assumption) (by assumption))
      (try dsimp only)
      (try k_fold)))
  (k_with "call ref" =>
     k_dflt (
      (with_reducible show wpAny _ _ (call (Value.ref 162) _) _ _ _)
      first
      | k_dflt refine' con_use0 (wd_use2 ?hI ?hl ?hl1 ?hD ?hr ?g1 ?g2 ?h0 ?h1 ?h2 ?h3 ?h4 ?h5) ?k1 ?k2 ?k3 ?k4 ?k5 ?kK ?kd ?ku ?_
        case k1 => k_dflt k_asm
        case k2 => k_dflt k_asm
        case k3 => k_dflt k_asm
        case k4 => k_dflt k_asm
        case hI => exact hI9
        case hl => exact hl9
        case hl1 => exact hl8
        case hD => exact hD9
        case hr => k_dflt k_all
        case g1 => k_ne
        case g2 => k_ne
        case h0 => first | assumption | omega
        case h1 => omega
        case h2 => assumption
        case h3 => assumption
        case h4 => first | exact wp1 _ | exact wp2 _
        case h5 => first | exact wm1 (by omega) | exact wm2 (by omega)
        case k5 => k_dflt k_asm
        case kK => k_dflt first | exact rfl | assumption
        case kd => k_dflt ktr_room
        case ku => k_dflt ktr_units
      | k_dflt refine' con_use0 (wd_use ?hI ?hl ?hl1 ?hD ?hr ?h0 ?h1 ?h2 ?h3 ?h4 ?h5) ?k1 ?k2 ?k3 ?k4 ?k5 ?kK ?kd ?ku ?_
        case k1 => k_dflt k_asm
        case k2 => k_dflt k_asm
        case k3 => k_dflt k_asm
        case k4 => k_dflt k_asm
        case hI => exact hI9
        case hl => exact hl9
        case hl1 => exact hl8
        case hD => exact hD9
        case hr => k_dflt k_all
        case h0 => first | assumption | omega
        case h1 => omega
        case h2 => assumption
        case h3 => assumption
        case h4 => first | exact wp1 _ | exact wp2 _
        case h5 => first | exact wm1 (by omega) | exact wm2 (by omega)
        case k5 => k_dflt k_asm
        case kK => k_dflt first | exact rfl | assumption
        case kd => k_dflt ktr_room
        case ku => k_dflt ktr_units
      rintro v9 nx9 h9 tk9 ⟨r9, sp9, hld9, t9, t19, t29, rfl, rfl, b1, b2, b3, b4, b5, b6⟩ F9 N9
      (try dsimp only)
      (try k_fold)))
  (k_with "call ref" =>
     k_dflt (
      (with_reducible show wpAny _ _ (call (Value.ref 148) _) _ _ _)
      first
      | k_dflt refine' con_use0 (fi_use ?kF ?h0 ?h1) ?k1 ?k2 ?k3 ?k4 ?k5 ?kK ?kd ?ku ?_
        case k1 => k_dflt k_asm
        case k2 => k_dflt k_asm
        case k3 => k_dflt k_asm
        case k4 => k_dflt k_asm
        case kF => k_dflt exact isform_of hok9 (by k_mem) (by k_mem)
        case h0 => exact Int.mul_nonneg (by assumption) (by assumption)
        case h1 => exact side_b (by assumption) (by assumption)
        case k5 => k_dflt k_asm
        case kK => k_dflt first | exact rfl | assumption
        case kd => k_dflt ktr_room
        case ku => k_dflt ktr_units
      rintro v9 nx9 h9 tk9 ⟨rfl, t9, rfl⟩ F9 N9
      (try dsimp only)
      (try k_fold)))
  (k_with "call ref" =>
     k_dflt (
      (with_reducible show wpAny _ _ (call (Value.ref 141) _) _ _ _)
      first
      | k_dflt refine' con_use0 (rr_use ?kF ?h0 ?h1) ?k1 ?k2 ?k3 ?k4 ?k5 ?kK ?kd ?ku ?_
        case k1 => k_dflt k_asm
        case k2 => k_dflt k_asm
        case k3 => k_dflt k_asm
        case k4 => k_dflt k_asm
        case kF => k_dflt exact isform_of hok9 (by k_mem) (by k_mem)
        case h0 => k_dflt first | assumption | decide | exact Int.le_of_lt (wp1 _) | exact (fi_b hok9 (Int.mul_nonneg (by assumption) (by assumption)) (side_b (by assumption) (by assumption))).1
        case h1 => k_dflt first | assumption | exact wp2 _ | exact ds1 _ | exact dss _ | exact dsw (by assumption) | exact (fi_b hok9 (Int.mul_nonneg (by assumption) (by assumption)) (side_b (by assumption) (by assumption))).2
        case k5 => k_dflt k_asm
        case kK => k_dflt first | exact rfl | assumption
        case kd => k_dflt ktr_room
        case ku => k_dflt ktr_units
      rintro v9 nx9 h9 tk9 ⟨rfl, r9, t9, rfl, hS9⟩ F9 N9
      (try dsimp only)
      (try k_fold)))
  (k_with "call ref" =>
     k_dflt (
      (with_reducible show wpAny _ _ (call (Value.ref 176) _) _ _ _)
      first
      | k_dflt refine' con_use0 (lr_use ?kF ?h0 ?hS) ?k1 ?k2 ?k3 ?k4 ?k5 ?kK ?kd ?ku ?_
        case k1 => k_dflt k_asm
        case k2 => k_dflt k_asm
        case k3 => k_dflt k_asm
        case k4 => k_dflt k_asm
        case kF => k_dflt exact isform_of hok9 (by k_mem) (by k_mem)
        case hS => k_dflt assumption
        case h0 => k_dflt first | assumption | decide | exact Int.le_of_lt (wp1 _) | exact (fi_b hok9 (Int.mul_nonneg (by assumption) (by assumption)) (side_b (by assumption) (by assumption))).1
        case k5 => k_dflt k_asm
        case kK => k_dflt first | exact rfl | assumption
        case kd => k_dflt ktr_room
        case ku => k_dflt ktr_units
      rintro v9 nx9 h9 tk9 ⟨rfl, rfl⟩ F9 N9
      (try dsimp only)
      (try k_fold)))
  (k_with "call ref" =>
     k_dflt (
      (with_reducible show wpAny _ _ (call (Value.ref 134) _) _ _ _)
      first
      | k_dflt refine' con_use0 (wr_use ?h0 ?h1) ?k1 ?k2 ?k3 ?k4 ?k5 ?kK ?kd ?ku ?_
        case k1 => k_dflt k_asm
        case k2 => k_dflt k_asm
        case k3 => k_dflt k_asm
        case k4 => k_dflt k_asm
        case h0 => assumption
        case h1 => k_dflt exact (ex_b (by assumption) (by omega)).2
        case k5 => k_dflt k_asm
        case kK => k_dflt first | exact rfl | assumption
        case kd => k_dflt ktr_room
        case ku => k_dflt ktr_units
      rintro v9 nx9 h9 tk9 ⟨rfl, r9, t9, rfl, hr9⟩ F9 N9
      (k_dflt have hr8 := r_b hr9 (ex_b (by assumption) (by omega)).1)
      obtain ⟨hr5, hr6, hr7, hr4⟩ := hr8
      (try dsimp only)
      (try k_fold)))
  (k_with "binaryOp Mult int int" =>
     k_dflt (
      first
      | refine PyProof.Rows.mul_int ?_ (mul1 (by assumption) (by assumption))
      | refine PyProof.Rows.mul_int ?_ (mul2 (by assumption) (by assumption))))
  k_steps
end Mine

theorem PySem.Challenge.cw_pb0323_01_holds : PySem.Challenge.rw_pb0323_01.Holds :=
  Mine.law_walk
