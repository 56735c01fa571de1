import PyProof.Rows.All
import Wide.All
import OpenK.AllK
import Wide.FinOn
import PySem.Challenge.RW_xm0396_01
open PySem PySem.W PyProof.Rows
set_option Elab.async false
set_option linter.all false
set_option maxRecDepth 100000
set_option maxHeartbeats 8000000
namespace Mine
open_top hd for PySem.Challenge.rw_xm0396_01
end Mine
section
open PySem PySem.W PyProof.Rows
set_option Elab.async false
namespace Mine

/-- the number that limbs tell -/
noncomputable def val (B : Int) : List Int → Int
  | [] => 0
  | x :: r => x + B * val B r
noncomputable def Limbs (B : Int) (xs : List Int) : Prop := ∀ z ∈ xs, 0 ≤ z ∧ z < B
/-- the limbs of a number, none of them idle -/
noncomputable def Dg (B : Int) (xs : List Int) (n : Int) : Prop := Limbs B xs ∧ val B xs = n ∧ ∀ k, xs.length = k + 1 → B ^ k ≤ n

theorem val_append (B : Int) : ∀ xs ys : List Int, val B (xs ++ ys) = val B xs + B ^ xs.length * val B ys
  | [], ys => by simp [val]
  | x :: r, ys => by
    rw [List.cons_append, val, val_append B r ys, val, List.length_cons, Int.pow_succ, Int.mul_add]
    have e : B * (B ^ r.length * val B ys) = B ^ r.length * B * val B ys := by rw [Int.mul_comm (B ^ r.length) B, Int.mul_assoc]
    omega
theorem val_snoc (B : Int) (xs : List Int) (x : Int) : val B (xs ++ [x]) = val B xs + B ^ xs.length * x := by
  rw [val_append]
  have e : val B [x] = x := by simp [val]
  rw [e]
theorem val_take_succ (B : Int) (xs : List Int) (k : Nat) : val B (xs.take (k + 1)) = val B (xs.take k) + B ^ k * xs.getD k 0 := by
  by_cases h : k < xs.length
  · have e : xs.take (k + 1) = xs.take k ++ [xs.getD k 0] := by
      rw [List.take_add_one]
      simp [List.getD_eq_getElem?_getD, h]
    rw [e, val_snoc]
    have l : (xs.take k).length = k := by rw [List.length_take]; omega
    rw [l]
  · have e1 : xs.take (k + 1) = xs := List.take_of_length_le (by omega)
    have e2 : xs.take k = xs := List.take_of_length_le (by omega)
    have e3 : xs.getD k 0 = 0 := by simp [List.getD_eq_getElem?_getD, h]
    rw [e1, e2, e3]; omega
theorem limbs_nil (B : Int) : Limbs B [] := fun _ h => nomatch h
theorem limbs_snoc {B : Int} {xs : List Int} {x : Int} (h : Limbs B xs) (h0 : 0 ≤ x) (h1 : x < B) : Limbs B (xs ++ [x]) := fun z hz =>
  (List.mem_append.mp hz).elim (h z) fun q => by rw [List.mem_singleton.mp q]; exact ⟨h0, h1⟩
theorem limbs_getD {B : Int} {xs : List Int} (hB : 0 < B) (h : Limbs B xs) (k : Nat) : 0 ≤ xs.getD k 0 ∧ xs.getD k 0 < B := by
  by_cases q : k < xs.length
  · have e : xs.getD k 0 = xs[k] := by simp [List.getD_eq_getElem?_getD, q]
    rw [e]; exact h _ (List.getElem_mem q)
  · have e : xs.getD k 0 = 0 := by simp [List.getD_eq_getElem?_getD, q]
    rw [e]; omega
theorem limbs_take {B : Int} {xs : List Int} (h : Limbs B xs) (k : Nat) : Limbs B (xs.take k) := fun z hz => h z (List.mem_of_mem_take hz)
theorem pow_pos' {B : Int} (hB : 0 < B) : ∀ k : Nat, 0 < B ^ k
  | 0 => by simp
  | k + 1 => by rw [Int.pow_succ]; exact Int.mul_pos (pow_pos' hB k) hB
theorem pow_le_pow {B : Int} (hB : 1 ≤ B) {k l : Nat} (h : k ≤ l) : B ^ k ≤ B ^ l := by
  obtain ⟨d, rfl⟩ := Nat.le.dest h
  clear h
  induction d with
  | zero => simp
  | succ d ih =>
    have e : k + (d + 1) = (k + d) + 1 := by omega
    rw [e, Int.pow_succ]
    have h1 := pow_pos' (show 0 < B by omega) (k + d)
    have h2 : B ^ (k + d) * 1 ≤ B ^ (k + d) * B := Int.mul_le_mul_of_nonneg_left hB (Int.le_of_lt h1)
    omega
theorem val_bounds {B : Int} (hB : 0 < B) : ∀ {xs : List Int}, Limbs B xs → 0 ≤ val B xs ∧ val B xs < B ^ xs.length
  | [], _ => by simp [val]
  | x :: r, h => by
    obtain ⟨a, b⟩ := val_bounds hB (xs := r) fun z hz => h z (.tail _ hz)
    obtain ⟨c, d⟩ := h x (.head _)
    rw [val, List.length_cons, Int.pow_succ]
    have h1 : 0 ≤ B * val B r := Int.mul_nonneg (Int.le_of_lt hB) a
    have h2 : B * (val B r + 1) ≤ B * B ^ r.length := Int.mul_le_mul_of_nonneg_left (by omega) (Int.le_of_lt hB)
    rw [Int.mul_add] at h2
    rw [Int.mul_comm (B ^ r.length) B]
    omega
theorem Dg.lt {B n : Int} {xs : List Int} (hB : 0 < B) (h : Dg B xs n) : 0 ≤ n ∧ n < B ^ xs.length := by
  have := val_bounds hB h.1
  rw [h.2.1] at this; exact this
theorem Dg.nil (B : Int) : Dg B [] 0 := ⟨limbs_nil B, rfl, fun k h => by simp at h⟩
theorem Dg.one {B x : Int} (h0 : 0 < x) (h1 : x < B) : Dg B [x] x := ⟨fun z hz => by rw [List.mem_singleton.mp hz]; omega, by simp [val], fun k h => by
  have : k = 0 := by simpa using h.symm
  subst this; simp; omega⟩
theorem Dg.len_le {B m n : Int} {xs ys : List Int} (hB : 1 < B) (hx : Dg B xs m) (hy : Dg B ys n) (h : m ≤ n) : xs.length ≤ ys.length := by
  apply Nat.le_of_not_lt
  intro q
  obtain ⟨k, hk⟩ : ∃ k, xs.length = k + 1 := ⟨xs.length - 1, by omega⟩
  have h1 := hx.2.2 k hk
  have h2 := (hy.lt (by omega)).2
  have h3 : B ^ ys.length ≤ B ^ k := pow_le_pow (by omega) (by omega)
  omega
theorem pow_gt {B : Int} (hB : 2 ≤ B) : ∀ k : Nat, (k : Int) < B ^ k
  | 0 => by simp
  | k + 1 => by
    have h := pow_gt hB k
    rw [Int.pow_succ]
    have h2 : B ^ k * 2 ≤ B ^ k * B := Int.mul_le_mul_of_nonneg_left hB (by omega)
    omega
theorem Dg.len_bound {B n : Int} {xs : List Int} (hB : 2 ≤ B) (h : Dg B xs n) : (xs.length : Int) ≤ n + 1 := by
  cases e : xs.length with
  | zero => have := (h.lt (by omega)).1; omega
  | succ k =>
    have h1 := h.2.2 k e
    have h2 := pow_gt hB k
    omega
theorem val_inj {B : Int} (hB : 0 < B) : ∀ {xs ys : List Int}, Limbs B xs → Limbs B ys → xs.length = ys.length → val B xs = val B ys → xs = ys
  | [], [], _, _, _, _ => rfl
  | x :: r, y :: t, hx, hy, hl, hv => by
    rw [val, val] at hv
    obtain ⟨a, b⟩ := hx x (.head _)
    obtain ⟨c, d⟩ := hy y (.head _)
    have key : ∀ {x y p q : Int}, 0 ≤ x → x < B → 0 ≤ y → y < B → x + B * p = y + B * q → x = y ∧ p = q := by
      intro x y p q h1 h2 h3 h4 e
      have e1 : (x + B * p) % B = x := by rw [Int.add_mul_emod_self_left, Int.emod_eq_of_lt h1 h2]
      have e2 : (y + B * q) % B = y := by rw [Int.add_mul_emod_self_left, Int.emod_eq_of_lt h3 h4]
      have e3 : x = y := by rw [← e1, ← e2, e]
      refine ⟨e3, ?_⟩
      have e4 : B * p = B * q := by omega
      exact Int.eq_of_mul_eq_mul_left (by omega) e4
    obtain ⟨rfl, e⟩ := key a b c d hv
    rw [val_inj hB (fun z hz => hx z (.tail _ hz)) (fun z hz => hy z (.tail _ hz)) (by simpa using hl) e]
theorem Dg.inj {B n : Int} {xs ys : List Int} (hB : 1 < B) (hx : Dg B xs n) (hy : Dg B ys n) : xs = ys :=
  val_inj (by omega) hx.1 hy.1 (Nat.le_antisymm (Dg.len_le hB hx hy (Int.le_refl _)) (Dg.len_le hB hy hx (Int.le_refl _))) (hx.2.1.trans hy.2.1.symm)
theorem fdiv_fmod {B t : Int} (hB : 0 < B) : t = B * t.fdiv B + t.fmod B ∧ 0 ≤ t.fmod B ∧ t.fmod B < B := by
  rw [Int.fdiv_eq_ediv_of_nonneg _ (Int.le_of_lt hB), Int.fmod_eq_emod_of_nonneg _ (Int.le_of_lt hB)]
  have h := Int.emod_def t B
  exact ⟨by omega, Int.emod_nonneg _ (by omega), Int.emod_lt_of_pos _ hB⟩
theorem fdiv_lt {B t u : Int} (hB : 0 < B) (h : t < B * u) : t.fdiv B < u := by
  have ⟨e, a, b⟩ := fdiv_fmod (t := t) hB
  apply Int.not_le.mp
  intro q
  have := Int.mul_le_mul_of_nonneg_left q (Int.le_of_lt hB)
  omega
theorem fdiv_nonneg' {B t : Int} (hB : 0 < B) (h : 0 ≤ t) : 0 ≤ t.fdiv B := by
  rw [Int.fdiv_eq_ediv_of_nonneg _ (Int.le_of_lt hB)]
  exact Int.ediv_nonneg h (Int.le_of_lt hB)
theorem mask_is (t : Int) (k : Nat) : Builtin.bitAnd t (1 * 2 ^ k - 1) = t.fmod (2 ^ k) := by
  rw [Int.one_mul, kbt_maskF]
theorem base_pos (k : Nat) : (0 : Int) < 2 ^ k := pow_pos' (by decide) k
theorem base_ge {w : Int} (h : 3 ≤ w) : (8 : Int) ≤ 2 ^ w.toNat := by
  have := pow_le_pow (B := 2) (by decide) (show 3 ≤ w.toNat by omega)
  simpa using this
theorem base_le {w : Int} (h : w ≤ 8) : (2 : Int) ^ w.toNat ≤ 256 := by
  have := pow_le_pow (B := 2) (by decide) (show w.toNat ≤ 8 by omega)
  simpa using this

/-- a limb put behind others, its carry handed on -/
theorem val_step {B p v t : Int} {k : Nat} {f : List Int} (hB : 0 < B) (hl : f.length = k) (e : val B f + B ^ k * p = v) (ht : t - p = t - p) :
    val B (f ++ [t.fmod B]) + B ^ (k + 1) * t.fdiv B = v + B ^ k * (t - p) := by
  have ⟨e1, _, _⟩ := fdiv_fmod (t := t) hB
  rw [val_snoc, hl, Int.pow_succ, Int.mul_sub]
  have e2 : B ^ k * t = B ^ k * (B * t.fdiv B) + B ^ k * t.fmod B := by rw [← Int.mul_add, ← e1]
  rw [Int.mul_assoc]
  omega

noncomputable def AddInv (B : Int) (xs ys : List Int) (k : Nat) (c : Int) (f : List Int) : Prop :=
  f.length = k ∧ Limbs B f ∧ 0 ≤ c ∧ c ≤ 1 ∧ val B f + B ^ k * c = val B (xs.take k) + val B (ys.take k)
theorem add_start (B : Int) (xs ys : List Int) : AddInv B xs ys 0 0 [] := ⟨rfl, limbs_nil B, by decide, by decide, by simp [val]⟩
theorem add_step {B c : Int} {xs ys f : List Int} {k : Nat} (hB : 0 < B) (hx : Limbs B xs) (hy : Limbs B ys) (h : AddInv B xs ys k c f) :
    AddInv B xs ys (k + 1) ((c + (xs.getD k 0 + ys.getD k 0)).fdiv B) (f ++ [(c + (xs.getD k 0 + ys.getD k 0)).fmod B]) := by
  obtain ⟨hl, hf, h0, h1, hv⟩ := h
  have ⟨x0, x1⟩ := limbs_getD hB hx k
  have ⟨y0, y1⟩ := limbs_getD hB hy k
  have ⟨_, r0, r1⟩ := fdiv_fmod (t := c + (xs.getD k 0 + ys.getD k 0)) hB
  have st := val_step (t := c + (xs.getD k 0 + ys.getD k 0)) hB hl hv rfl
  refine ⟨by simp [hl], limbs_snoc hf r0 r1, fdiv_nonneg' hB (by omega), Int.le_of_lt_add_one (fdiv_lt hB (by omega)), ?_⟩
  rw [st, val_take_succ, val_take_succ]
  have e : c + (xs.getD k 0 + ys.getD k 0) - c = xs.getD k 0 + ys.getD k 0 := by omega
  rw [e, Int.mul_add]; omega
theorem add_done {B c m n : Int} {xs ys f : List Int} (hB : 1 < B) (hx : Dg B xs m) (hy : Dg B ys n) (hl : ys.length ≤ xs.length) (h : AddInv B xs ys xs.length c f) :
    (0 < c → Dg B (f ++ [c]) (m + n)) ∧ (¬ 0 < c → Dg B f (m + n)) := by
  obtain ⟨hfl, hf, h0, h1, hv⟩ := h
  have e1 : xs.take xs.length = xs := List.take_length
  have e2 : ys.take xs.length = ys := List.take_of_length_le hl
  rw [e1, e2, hx.2.1, hy.2.1] at hv
  have hn := (hy.lt (by omega)).1
  constructor
  · intro hc
    have : c = 1 := by omega
    subst this
    refine ⟨limbs_snoc hf h0 (by omega), by rw [val_snoc, hfl]; omega, fun k hk => ?_⟩
    have : k = xs.length := by simp at hk; omega
    subst this
    have := (val_bounds (by omega) hf).1
    omega
  · intro hc
    have : c = 0 := by omega
    subst this
    refine ⟨hf, by omega, fun k hk => ?_⟩
    have := hx.2.2 k (by omega)
    omega

noncomputable def NormInv (B : Int) (xs : List Int) (e : Int) : Prop := 0 ≤ e ∧ e ≤ (xs.length : Int) ∧ ∀ i, e.toNat ≤ i → xs.getD i 0 = 0
theorem norm_start (B : Int) (xs : List Int) : NormInv B xs (xs.length : Int) := ⟨by omega, by omega, fun i hi => by
  have : ¬ i < xs.length := by omega
  simp [List.getD_eq_getElem?_getD, this]⟩
theorem norm_step {B e : Int} {xs : List Int} (h : NormInv B xs e) (h0 : 0 < e) (hz : xs.getD (e - 1).toNat 0 = 0) : NormInv B xs (e - 1) :=
  ⟨by omega, by have := h.2.1; omega, fun i hi => by
    by_cases q : i = (e - 1).toNat
    · rw [q]; exact hz
    · exact h.2.2 i (by omega)⟩
theorem val_zeros (B : Int) : ∀ {xs : List Int} {k : Nat}, (∀ i, k ≤ i → xs.getD i 0 = 0) → val B (xs.take k) = val B xs
  | [], _, _ => by simp
  | x :: r, 0, h => by
    have h1 : x = 0 := by simpa using h 0 (by omega)
    have h2 := val_zeros B (xs := r) (k := 0) fun i _ => by simpa using h (i + 1) (by omega)
    simp only [List.take_zero, val] at h2 ⊢
    rw [h1, ← h2]; simp
  | x :: r, k + 1, h => by
    rw [List.take_succ_cons, val, val, val_zeros B fun i hi => by simpa using h (i + 1) (by omega)]
theorem norm_done {B e : Int} {xs : List Int} (hB : 0 < B) (hx : Limbs B xs) (h : NormInv B xs e) (hz : ¬ 0 < e ∨ xs.getD (e - 1).toNat 0 ≠ 0) : Dg B (xs.take e.toNat) (val B xs) := by
  obtain ⟨h0, h1, h2⟩ := h
  refine ⟨limbs_take hx _, val_zeros B h2, fun k hk => ?_⟩
  rw [List.length_take] at hk
  rcases hz with hz | hz
  · omega
  · have e1 : e.toNat = k + 1 := by omega
    have e2 : (e - 1).toNat = k := by omega
    rw [← val_zeros B h2, e1, val_take_succ]
    rw [e2] at hz
    have a := (val_bounds hB (limbs_take hx k)).1
    have b := (limbs_getD hB hx k).1
    have c := pow_pos' hB k
    have d : B ^ k * 1 ≤ B ^ k * xs.getD k 0 := Int.mul_le_mul_of_nonneg_left (by omega) (Int.le_of_lt c)
    omega

noncomputable def SubInv (B : Int) (xs ys : List Int) (k : Nat) (b : Int) (f : List Int) : Prop :=
  f.length = k ∧ Limbs B f ∧ 0 ≤ b ∧ b ≤ 1 ∧ val B f - B ^ k * b = val B (xs.take k) - val B (ys.take k)
theorem sub_start (B : Int) (xs ys : List Int) : SubInv B xs ys 0 0 [] := ⟨rfl, limbs_nil B, by decide, by decide, by simp [val]⟩
theorem sub_step {B b t : Int} {xs ys f : List Int} {k : Nat} (hB : 0 < B) (hx : Limbs B xs) (hy : Limbs B ys) (h : SubInv B xs ys k b f) (ht : t = xs.getD k 0 - b - ys.getD k 0) :
    SubInv B xs ys (k + 1) (if t < 0 then 1 else 0) (f ++ [if t < 0 then t + B else t]) := by
  obtain ⟨hl, hf, h0, h1, hv⟩ := h
  have ⟨x0, x1⟩ := limbs_getD hB hx k
  have ⟨y0, y1⟩ := limbs_getD hB hy k
  have e1 : val B (f ++ [if t < 0 then t + B else t]) - B ^ (k + 1) * (if t < 0 then 1 else 0) = val B f + B ^ k * t := by
    rw [val_snoc, hl, Int.pow_succ]
    split
    · rw [Int.mul_add]; omega
    · omega
  refine ⟨by simp [hl], limbs_snoc hf ?_ ?_, ?_, ?_, ?_⟩
  · split <;> omega
  · split <;> omega
  · split <;> omega
  · split <;> omega
  · rw [e1, val_take_succ, val_take_succ, ht, Int.mul_sub, Int.mul_sub]; omega
theorem sub_done {B b m n : Int} {xs ys f : List Int} (hB : 1 < B) (hx : Dg B xs m) (hy : Dg B ys n) (hmn : n ≤ m) (h : SubInv B xs ys xs.length b f) : Limbs B f ∧ val B f = m - n := by
  obtain ⟨hfl, hf, h0, h1, hv⟩ := h
  have e1 : xs.take xs.length = xs := List.take_length
  have e2 : ys.take xs.length = ys := List.take_of_length_le (Dg.len_le hB hy hx hmn)
  rw [e1, e2, hx.2.1, hy.2.1] at hv
  have hlt := (val_bounds (by omega) hf).2
  rw [hfl] at hlt
  refine ⟨hf, ?_⟩
  have : b = 0 ∨ b = 1 := by omega
  rcases this with rfl | rfl <;> omega

noncomputable def ShlInv (B : Int) (xs : List Int) (k : Nat) (c : Int) (f : List Int) : Prop :=
  f.length = k ∧ Limbs B f ∧ 0 ≤ c ∧ c ≤ 1 ∧ val B f + B ^ k * c = 2 * val B (xs.take k)
theorem shl_start (B : Int) (xs : List Int) : ShlInv B xs 0 0 [] := ⟨rfl, limbs_nil B, by decide, by decide, by simp [val]⟩
theorem shl_step {B c : Int} {xs f : List Int} {k : Nat} (hB : 0 < B) (hx : Limbs B xs) (h : ShlInv B xs k c f) :
    ShlInv B xs (k + 1) ((2 * xs.getD k 0 + c).fdiv B) (f ++ [(2 * xs.getD k 0 + c).fmod B]) := by
  obtain ⟨hl, hf, h0, h1, hv⟩ := h
  have ⟨x0, x1⟩ := limbs_getD hB hx k
  have ⟨_, r0, r1⟩ := fdiv_fmod (t := 2 * xs.getD k 0 + c) hB
  have st := val_step (t := 2 * xs.getD k 0 + c) hB hl hv rfl
  refine ⟨by simp [hl], limbs_snoc hf r0 r1, fdiv_nonneg' hB (by omega), Int.le_of_lt_add_one (fdiv_lt hB (by omega)), ?_⟩
  rw [st, val_take_succ]
  have e : 2 * xs.getD k 0 + c - c = 2 * xs.getD k 0 := by omega
  have e3 : B ^ k * (2 * xs.getD k 0) = 2 * (B ^ k * xs.getD k 0) := by rw [← Int.mul_assoc, Int.mul_comm (B ^ k) 2, Int.mul_assoc]
  rw [e, e3]; omega
theorem shl_done {B c m : Int} {xs f : List Int} (hB : 1 < B) (hx : Dg B xs m) (h : ShlInv B xs xs.length c f) :
    (0 < c → Dg B (f ++ [c]) (2 * m)) ∧ (¬ 0 < c → Dg B f (2 * m)) := by
  obtain ⟨hfl, hf, h0, h1, hv⟩ := h
  have e1 : xs.take xs.length = xs := List.take_length
  rw [e1, hx.2.1] at hv
  have hm := (hx.lt (by omega)).1
  constructor
  · intro hc
    have : c = 1 := by omega
    subst this
    refine ⟨limbs_snoc hf h0 (by omega), by rw [val_snoc, hfl]; omega, fun k hk => ?_⟩
    have : k = xs.length := by simp at hk; omega
    subst this
    have := (val_bounds (by omega) hf).1
    omega
  · intro hc
    have : c = 0 := by omega
    subst this
    refine ⟨hf, by omega, fun k hk => ?_⟩
    have := hx.2.2 k (by omega)
    omega
theorem or_even {c x : Int} (h0 : 0 ≤ c) (h1 : c ≤ 1) (hx : 0 ≤ x) : Builtin.bitOr c (x * 2 ^ 1) = 2 * x + c := by
  have e : Builtin.bitAnd c (x * 2 ^ 1) = 0 := by
    rw [bitAnd_comm, kbt_halves]
    have e1 : c / 2 = 0 := by omega
    have e2 : ¬ (x * 2 ^ 1 % 2 = 1 ∧ c % 2 = 1) := by omega
    rw [e1, if_neg e2, bitAnd_zero]; rfl
  rw [bitOr_and, e]; omega

noncomputable def LimInv (B n0 : Int) (k : Int) (f : List Int) : Prop := 0 ≤ k ∧ Limbs B f ∧ val B f + B ^ f.length * k = n0 ∧ ∀ j, f.length = j + 1 → B ^ j ≤ n0
theorem lim_start {B n0 : Int} (h : 0 ≤ n0) : LimInv B n0 n0 [] := ⟨h, limbs_nil B, by simp [val], fun j h => by simp at h⟩
theorem lim_step {B n0 k : Int} {f : List Int} (hB : 0 < B) (h : LimInv B n0 k f) (hk : 0 < k) : LimInv B n0 (k.fdiv B) (f ++ [k.fmod B]) := by
  obtain ⟨h0, hf, hv, hc⟩ := h
  have ⟨e, r0, r1⟩ := fdiv_fmod (t := k) hB
  have st := val_step (t := k) (p := k) hB rfl hv rfl
  have ez : B ^ f.length * (k - k) = 0 := by rw [Int.sub_self, Int.mul_zero]
  have hl : (f ++ [k.fmod B]).length = f.length + 1 := by simp
  refine ⟨fdiv_nonneg' hB h0, limbs_snoc hf r0 r1, by rw [hl, st, ez]; omega, fun j hj => ?_⟩
  have : j = f.length := by omega
  subst this
  have a := (val_bounds hB hf).1
  have c := pow_pos' hB f.length
  have d : B ^ f.length * 1 ≤ B ^ f.length * k := Int.mul_le_mul_of_nonneg_left (by omega) (Int.le_of_lt c)
  omega
theorem lim_done {B n0 k : Int} {f : List Int} (h : LimInv B n0 k f) (hk : ¬ 0 < k) : Dg B f n0 := by
  obtain ⟨h0, hf, hv, hc⟩ := h
  have : k = 0 := by omega
  subst this
  exact ⟨hf, by rw [Int.mul_zero] at hv; omega, hc⟩
theorem lim_less {B k : Int} (hB : 2 ≤ B) (hk : 0 < k) : (k.fdiv B).toNat < k.toNat := by
  have h : k.fdiv B < k := fdiv_lt (by omega) (by have : 2 * k ≤ B * k := Int.mul_le_mul_of_nonneg_right hB (by omega); omega)
  have := fdiv_nonneg' (B := B) (t := k) (by omega) (by omega)
  omega
end Mine
end
section
open PySem PySem.W PyProof.Rows PySem.Calls PySem.Spec
set_option Elab.async false
set_option maxRecDepth 100000
set_option maxHeartbeats 8000000
namespace Mine

structure Con (D : Type) where
  Rel : List (Addr × Obj) → List Value → D → Prop
  Ok : D → Prop
  size : Nat
  Out : D → Value → List (Addr × Obj) → Prop

/-- a def at f keeps its word: called from any frame, with arguments that the ledger bears, it comes back with what it made -/
noncomputable def Keeps {D : Type} (f : Addr) (c : Con D) : Prop :=
  ∀ (w : World) (mean : ExcName → Option Value) (mg mb : Str → Option Value) (d : D)
    (dp un : Nat) (gd : Option (List Code)) (cn : Str) (cs : Scope) (a : Addr) (ccd : Value) (cl : List (Str × Addr)) (outer : List Env) (A₀ : Around) (base h₀ : Heap) (L : Addr) (m : Str → Option Value) (news : List (Addr × Obj)) (s : Shared) (vs : List Value)
    (Q E : Value → Shared → Prop),
    Below A₀ base outer h₀ → Fr h₀ L s.heap m → (hd.heap_39 w.params).In h₀ → News h₀ L s.heap news → Top hd.view_39 (looseW hd.view_39 []) mean mg mb h₀ → cs.kind = .function → c.Rel news vs d → c.Ok d → dp + c.size < recursionLimit → un + 8 * c.size < cLine →
    (∀ r tl h' tk', Fr h₀ L h' m → News h₀ L h' (tl ++ news) → (∀ q ∈ news, ∀ p ∈ tl, q.1 < p.1) → c.Out d r tl → Q r { s with heap := h', toks := tk' }) →
    wpAny (model PySem.Challenge.rw_xm0396_01.row.prog w) (ktrTop dp un gd cn cs L a ccd cl outer) (call (.ref f) vs) Q E s

/-- the ledger bears the limbs of n at v -/
noncomputable def LD (news : List (Addr × Obj)) (v : Value) (w n : Int) : Prop := ∃ a us k xs, v = .ref a ∧ (a, listOf us.toArray k) ∈ news ∧ IntsAre us xs ∧ Dg (2 ^ w.toNat) xs n
/-- what was made: the limbs of n -/
noncomputable def MadeD (w n : Int) (r : Value) (tl : List (Addr × Obj)) : Prop := ∃ a us k xs, r = .ref a ∧ tl = [(a, listOf us.toArray k)] ∧ IntsAre us xs ∧ Dg (2 ^ w.toNat) xs n

theorem news_at {h₀ h : Heap} {L a : Addr} {o : Obj} {news : List (Addr × Obj)} (N : News h₀ L h news) (hm : (a, o) ∈ news) : News h₀ L h ((a, o) :: news) :=
  fun p hp => N p ((List.mem_cons.mp hp).elim (fun e => e ▸ hm) id)
theorem news_sub {h₀ h : Heap} {L : Addr} {news news' : List (Addr × Obj)} (N : News h₀ L h news) (hs : ∀ p ∈ news', p ∈ news) : News h₀ L h news' := fun p hp => N p (hs p hp)
theorem ord_one {a : Addr} {o : Obj} {news : List (Addr × Obj)} (h : AllLt a news) : ∀ q ∈ news, ∀ p ∈ [(a, o)], q.1 < p.1 := by
  intro q hq p hp
  rw [List.mem_singleton.mp hp]
  exact kst_ltOf h q hq

theorem made_one {h₀ h : Heap} {L a : Addr} {o : Obj} {led news : List (Addr × Obj)} (N : News h₀ L h led) (h1 : (a, o) ∈ led) (h2 : ∀ p ∈ news, p ∈ led) : News h₀ L h ([(a, o)] ++ news) :=
  fun p hp => N p ((List.mem_cons.mp hp).elim (fun e => e ▸ h1) (h2 p))
theorem lt_of_one {a : Addr} {o : Obj} {news : List (Addr × Obj)} (h : ∀ q ∈ news, ∀ p ∈ [(a, o)], q.1 < p.1) : AllLt a news := allLt_of fun q hq => h q hq _ (.head _)
theorem keeps_use {D : Type} {f : Addr} {c : Con D} (C : Keeps f c) {w : World} {mean : ExcName → Option Value} {mg mb : Str → Option Value} {d : D}
    {dp un : Nat} {gd : Option (List Code)} {cn : Str} {cs : Scope} {a : Addr} {ccd : Value} {cl : List (Str × Addr)} {outer : List Env} {A₀ : Around} {base h₀ : Heap} {L : Addr} {m : Str → Option Value} {news : List (Addr × Obj)} {s : Shared} {vs : List Value}
    {Q E : Value → Shared → Prop}
    (B : Below A₀ base outer h₀) (F : Fr h₀ L s.heap m) (X : (hd.heap_39 w.params).In h₀) (N : News h₀ L s.heap news) (T : Top hd.view_39 (looseW hd.view_39 []) mean mg mb h₀) (hk : cs.kind = .function) (R : c.Rel news vs d) (ok : c.Ok d)
    (hd : dp + c.size < recursionLimit) (hu : un + 8 * c.size < cLine)
    (ret : ∀ r tl h' tk', Fr h₀ L h' m → News h₀ L h' (tl ++ news) → (∀ q ∈ news, ∀ p ∈ tl, q.1 < p.1) → c.Out d r tl → Q r { s with heap := h', toks := tk' }) :
    wpAny (model PySem.Challenge.rw_xm0396_01.row.prog w) (ktrTop dp un gd cn cs L a ccd cl outer) (call (.ref f) vs) Q E s :=
  C _ _ _ _ _ _ _ _ _ _ _ _ _ _ _ _ _ _ _ _ _ _ _ _ B F X N T hk R ok hd hu ret
structure D3 where
  w : Int
  m : Int
  n : Int
noncomputable def addC : Con D3 where
  Rel := fun news vs d => ∃ v1 v2 t, vs = [v1, v2, .int d.w t] ∧ LD news v1 d.w d.m ∧ LD news v2 d.w d.n
  Ok := fun d => 3 ≤ d.w ∧ d.w ≤ 8 ∧ d.m < 500 ∧ d.n < 500
  size := 5
  Out := fun d => MadeD d.w (d.m + d.n)

theorem add_turn {w c k : Int} {xs ys f pre : List Int} (h : AddInv (2 ^ w.toNat) xs ys pre.length c f) (e : k = 0 + (pre.length : Int)) (hx : Limbs (2 ^ w.toNat) xs) (hy : Limbs (2 ^ w.toNat) ys) :
    AddInv (2 ^ w.toNat) xs ys (pre ++ [k]).length ((c + (xs.getD k.toNat 0 + ys.getD k.toNat 0)).fdiv (2 ^ w.toNat)) (f ++ [Builtin.bitAnd (c + (xs.getD k.toNat 0 + ys.getD k.toNat 0)) (1 * 2 ^ w.toNat - 1)]) := by
  have e2 : k.toNat = pre.length := by omega
  rw [mask_is, e2]
  have := add_step (base_pos w.toNat) hx hy h
  simpa using this
theorem add_turn2 {w c k : Int} {xs ys f pre : List Int} (h : AddInv (2 ^ w.toNat) xs ys (ys.length + pre.length) c f) (e : k = (ys.length : Int) + (pre.length : Int)) (hx : Limbs (2 ^ w.toNat) xs) (hy : Limbs (2 ^ w.toNat) ys) :
    AddInv (2 ^ w.toNat) xs ys (ys.length + (pre ++ [k]).length) ((c + xs.getD k.toNat 0).fdiv (2 ^ w.toNat)) (f ++ [Builtin.bitAnd (c + xs.getD k.toNat 0) (1 * 2 ^ w.toNat - 1)]) := by
  have e2 : k.toNat = ys.length + pre.length := by omega
  rw [mask_is, e2]
  have := add_step (base_pos w.toNat) hx hy h
  have z : ys.getD (ys.length + pre.length) 0 = 0 := by simp [List.getD_eq_getElem?_getD]
  rw [z] at this
  simpa [Nat.add_assoc] using this
theorem add_cont {B c : Int} {l : Nat} {xs ys f : List Int} (h : AddInv B xs ys (rangeKs 0 ((l : Int) - 0).toNat).length c f) : AddInv B xs ys (l + ([] : List Int).length) c f := by
  rw [rangeKs_length] at h; simpa using h
theorem add_at {B c : Int} {a : Int} {xs ys f : List Int} (hl : ys.length ≤ xs.length) (h : AddInv B xs ys (ys.length + (rangeKs a ((xs.length : Int) - ys.length).toNat).length) c f) : AddInv B xs ys xs.length c f := by
  rw [rangeKs_length] at h
  have e : ys.length + ((xs.length : Int) - ys.length).toNat = xs.length := by omega
  rwa [e] at h

structure D1 where
  w : Int
  xs : List Int
/-- the ledger bears a list of these ints at v -/
noncomputable def LI (news : List (Addr × Obj)) (v : Value) (xs : List Int) : Prop := ∃ a us n, v = .ref a ∧ (a, listOf us.toArray n) ∈ news ∧ IntsAre us xs
noncomputable def normalC : Con D1 where
  Rel := fun news vs d => ∃ v, vs = [v] ∧ LI news v d.xs
  Ok := fun d => 3 ≤ d.w ∧ d.xs.length < 2000 ∧ Limbs (2 ^ d.w.toNat) d.xs
  size := 5
  Out := fun d => MadeD d.w (val (2 ^ d.w.toNat) d.xs)
noncomputable def cmpI (m n : Int) : Int := if m < n then -1 else if n < m then 1 else 0
noncomputable def compareC : Con D3 where
  Rel := fun news vs d => ∃ v1 v2, vs = [v1, v2] ∧ LD news v1 d.w d.m ∧ LD news v2 d.w d.n
  Ok := fun d => 3 ≤ d.w ∧ d.m < 500 ∧ d.n < 500
  size := 5
  Out := fun d r tl => tl = [] ∧ ∃ t, r = .int (cmpI d.m d.n) t

/-- above place k the limbs are alike -/
noncomputable def CmpInv (xs ys : List Int) (k : Nat) : Prop := ∀ i, k ≤ i → xs.getD i 0 = ys.getD i 0
theorem cmp_lt {B : Int} {xs ys : List Int} {k : Nat} (hB : 0 < B) (hx : Limbs B xs) (hy : Limbs B ys) (hk : k < xs.length) (hl : xs.length = ys.length) (h : CmpInv xs ys (k + 1)) (hlt : xs.getD k 0 < ys.getD k 0) : val B xs < val B ys := by
  have key : ∀ d, val B (xs.take (k + 1 + d)) < val B (ys.take (k + 1 + d)) := by
    intro d
    induction d with
    | zero =>
      rw [Nat.add_zero, val_take_succ, val_take_succ]
      have a := (val_bounds hB (limbs_take hx k)).2
      have b := (val_bounds hB (limbs_take hy k)).1
      rw [List.length_take, Nat.min_eq_left (by omega)] at a
      have c := pow_pos' hB k
      have e : B ^ k * (xs.getD k 0 + 1) ≤ B ^ k * ys.getD k 0 := Int.mul_le_mul_of_nonneg_left (by omega) (Int.le_of_lt c)
      rw [Int.mul_add, Int.mul_one] at e
      omega
    | succ d ih =>
      rw [← Nat.add_assoc, val_take_succ, val_take_succ, h (k + 1 + d) (by omega)]
      omega
  have := key (xs.length)
  rwa [List.take_of_length_le (by omega), List.take_of_length_le (by omega)] at this
theorem cmp_is_lt {B m n : Int} {xs ys : List Int} {k : Nat} (hB : 0 < B) (hx : Dg B xs m) (hy : Dg B ys n) (hk : k < xs.length) (hl : xs.length = ys.length) (h : CmpInv xs ys (k + 1)) (hlt : xs.getD k 0 < ys.getD k 0) : cmpI m n = -1 := by
  have := cmp_lt hB hx.1 hy.1 hk hl h hlt
  rw [hx.2.1, hy.2.1] at this
  unfold cmpI; rw [if_pos this]
theorem cmp_is_gt {B m n : Int} {xs ys : List Int} {k : Nat} (hB : 0 < B) (hx : Dg B xs m) (hy : Dg B ys n) (hk : k < xs.length) (hl : xs.length = ys.length) (h : CmpInv xs ys (k + 1)) (hlt : ¬ xs.getD k 0 < ys.getD k 0) (hne : xs.getD k 0 ≠ ys.getD k 0) : cmpI m n = 1 := by
  have := cmp_lt hB hy.1 hx.1 (by omega) hl.symm (fun i hi => (h i hi).symm) (show ys.getD k 0 < xs.getD k 0 by omega)
  rw [hx.2.1, hy.2.1] at this
  unfold cmpI; rw [if_neg (by omega), if_pos this]
theorem cmp_is_eq {B m n : Int} {xs ys : List Int} (hx : Dg B xs m) (hy : Dg B ys n) (hl : xs.length = ys.length) (h : CmpInv xs ys 0) : cmpI m n = 0 := by
  have e : xs = ys := List.ext_getElem hl fun i h1 h2 => by
    have := h i (by omega)
    simpa [List.getD_eq_getElem?_getD, h1, h2] using this
  subst e
  have : m = n := hx.2.1.symm.trans hy.2.1
  unfold cmpI; rw [if_neg (by omega), if_neg (by omega)]
theorem cmp_short {B m n : Int} {xs ys : List Int} (hB : 1 < B) (hx : Dg B xs m) (hy : Dg B ys n) (hl : xs.length < ys.length) : cmpI m n = -1 := by
  have : m < n := by
    apply Int.not_le.mp
    intro q
    have := Dg.len_le hB hy hx q
    omega
  unfold cmpI; rw [if_pos this]
theorem cmp_long {B m n : Int} {xs ys : List Int} (hB : 1 < B) (hx : Dg B xs m) (hy : Dg B ys n) (hl : ¬ xs.length < ys.length) (hne : xs.length ≠ ys.length) : cmpI m n = 1 := by
  have : n < m := by
    apply Int.not_le.mp
    intro q
    have := Dg.len_le hB hx hy q
    omega
  unfold cmpI; rw [if_neg (by omega), if_pos this]

noncomputable def subC : Con D3 where
  Rel := fun news vs d => ∃ v1 v2 t, vs = [v1, v2, .int d.w t] ∧ LD news v1 d.w d.m ∧ LD news v2 d.w d.n
  Ok := fun d => 3 ≤ d.w ∧ d.w ≤ 8 ∧ d.m < 500 ∧ d.n ≤ d.m
  size := 8
  Out := fun d => MadeD d.w (d.m - d.n)
structure D2 where
  w : Int
  m : Int
noncomputable def shlC : Con D2 where
  Rel := fun news vs d => ∃ v1 t1 t, vs = [v1, .int 1 t1, .int d.w t] ∧ LD news v1 d.w d.m
  Ok := fun d => 3 ≤ d.w ∧ d.w ≤ 8 ∧ d.m < 500
  size := 5
  Out := fun d => MadeD d.w (2 * d.m)
noncomputable def mulC : Con D3 where
  Rel := fun news vs d => ∃ v1 v2 t, vs = [v1, v2, .int d.w t] ∧ LD news v1 d.w d.m ∧ LD news v2 d.w d.n
  Ok := fun d => 3 ≤ d.w ∧ d.w ≤ 8 ∧ d.m < 500 ∧ d.n < 500
  size := 8
  Out := fun d => MadeD d.w (d.m * d.n)

noncomputable def limbsC : Con D2 where
  Rel := fun _ vs d => ∃ t1 t, vs = [.int d.m t1, .int d.w t]
  Ok := fun d => 3 ≤ d.w ∧ d.w ≤ 8 ∧ 0 ≤ d.m ∧ d.m < 500
  size := 5
  Out := fun d => MadeD d.w d.m
noncomputable def worthC : Con D2 where
  Rel := fun news vs d => ∃ v1 t, vs = [v1, .int d.w t] ∧ LD news v1 d.w d.m
  Ok := fun d => 3 ≤ d.w ∧ d.w ≤ 8 ∧ d.m < 500
  size := 5
  Out := fun d r tl => tl = [] ∧ ∃ t, r = .int d.m t

noncomputable abbrev tup2 (v1 v2 : Value) : Obj := { cls := .type "tuple", data := .seq #[v1, v2] }
/-- the ledger bears a pair of numbers at v -/
noncomputable def PairIn (news : List (Addr × Obj)) (v : Value) (w m n : Int) : Prop := ∃ p v1 v2, v = .ref p ∧ (p, tup2 v1 v2) ∈ news ∧ LD news v1 w m ∧ LD news v2 w n
noncomputable def MadeP (w m n : Int) (r : Value) (tl : List (Addr × Obj)) : Prop := ∃ p a1 us1 k1 xs1 a2 us2 k2 xs2, r = .ref p ∧ tl = [(p, tup2 (.ref a1) (.ref a2)), (a1, listOf us1.toArray k1), (a2, listOf us2.toArray k2)] ∧ IntsAre us1 xs1 ∧ Dg (2 ^ w.toNat) xs1 m ∧ IntsAre us2 xs2 ∧ Dg (2 ^ w.toNat) xs2 n
noncomputable def dblC : Con D3 where
  Rel := fun news vs d => ∃ v t, vs = [v, .int d.w t, .ref 109] ∧ PairIn news v d.w d.m d.n
  Ok := fun d => 3 ≤ d.w ∧ d.w ≤ 8 ∧ d.m ≤ 2 * d.n ∧ d.m ≤ 10 ∧ d.n ≤ 13
  size := 12
  Out := fun d => MadeP d.w (d.m * (2 * d.n - d.m)) (d.m * d.m + d.n * d.n)
noncomputable def fibZ : Nat → Int
  | 0 => 0
  | 1 => 1
  | n + 2 => fibZ n + fibZ (n + 1)
noncomputable def fpC : Con D2 where
  Rel := fun _ vs d => ∃ t1 t, vs = [.int d.m t1, .int d.w t, .ref 109]
  Ok := fun d => 3 ≤ d.w ∧ d.w ≤ 8 ∧ 0 ≤ d.m ∧ d.m ≤ 10
  size := 16
  Out := fun d => MadeP d.w (fibZ d.m.toNat) (fibZ (d.m.toNat + 1))
noncomputable def fibC : Con D2 where
  Rel := fun _ vs d => ∃ t1 t, vs = [.int d.m t1, .int d.w t, .ref 109]
  Ok := fun d => 3 ≤ d.w ∧ d.w ≤ 8 ∧ 0 ≤ d.m ∧ d.m ≤ 10
  size := 20
  Out := fun d => MadeD d.w (fibZ d.m.toNat)
theorem lt_app {a : Addr} : ∀ {l r : List (Addr × Obj)}, AllLt a (l ++ r) → AllLt a l
  | [], _, _ => trivial
  | _ :: _, _, h => ⟨h.1, lt_app h.2⟩
end Mine
end
open PySem PySem.W PyProof.Rows PySem.Calls PySem.Spec
set_option Elab.async false
set_option linter.all false
set_option maxRecDepth 100000
set_option maxHeartbeats 8000000
set_option compiler.extract_closed false
set_option genInjectivity false
set_option genSizeOfSpec false
namespace Mine
local macro_rules | `(tactic| k_memK) => `(tactic| ktr_member)
local macro_rules | `(tactic| walk_at "for") => `(tactic| ((rename Fr _ _ _ _ => lF'); (with_unfolding_all refine' For_invVF lF' ?k1 ?k2 ?_; (case k1 => exact rfl); (case k2 => exact rfl); k_whole)))
local macro_rules | `(tactic| walk_at "fort") => `(tactic| ((rename Fr _ _ _ _ => lF'); (with_reducible apply For_pair3F); (case _F => with_unfolding_all exact lF'); (case hh => with_unfolding_all rfl); (case hxi => with_unfolding_all rfl); (case hxc => with_unfolding_all rfl); (case hp => with_unfolding_all rfl); (case hs => (intro _; with_unfolding_all rfl))))
/- part base2 -/
section
/-- the ledger bears the list of Fibonacci's numbers' limbs at v: eleven of them -/
noncomputable def Told (news : List (Addr × Obj)) (v : Value) (w : Int) : Prop := ∃ (a : Addr) (vs : List Value) (k : Nat), v = .ref a ∧ (a, listOf vs.toArray k) ∈ news ∧ vs.length = 11 ∧ ∀ i, i < 11 → LD news (vs.getD i .none) w (fibZ i)
/-- the greedy places of n, from place k down: the sum's rest and the places found above -/
noncomputable def gStep (p : Nat) (s : Int × List Int) : Int × List Int := if fibZ p ≤ s.1 then (s.1 - fibZ p, (p : Int) :: s.2) else s
/-- after i turns: places 10, 9, .. -/
noncomputable def gRun (n : Int) : Nat → Int × List Int
  | 0 => (n, [])
  | i + 1 => gStep (10 - i) (gRun n i)
noncomputable def greedyL (n : Int) : List Int := (gRun n 9).2
noncomputable def greedyC : Con D2 where
  Rel := fun news vs d => ∃ v t1 t, vs = [.int d.m t1, v, .int d.w t] ∧ Told news v d.w
  Ok := fun d => 3 ≤ d.w ∧ d.w ≤ 8 ∧ 0 ≤ d.m ∧ d.m ≤ 50
  size := 14
  Out := fun d r tl => ∃ (a : Addr) (us : List Value) (k : Nat), r = .ref a ∧ tl = [(a, listOf us.toArray k)] ∧ IntsAre us (greedyL d.m)
theorem gRun_facts : ∀ n : Fin 51, (gRun (n.1 : Int) 9).1 = 0 ∧ (∀ i : Fin 10, 0 ≤ (gRun (n.1 : Int) i.1).1 ∧ (gRun (n.1 : Int) i.1).1 ≤ 50 ∧ (gRun (n.1 : Int) i.1).2.length ≤ i.1) := by decide +kernel
section
variable {prog : Program} {w : World} {A : Around} {E : Value → Shared → Prop} {s : Shared} {h₀ : Heap} {L D : Addr} {m : Str → Option Value} {news : List (Addr × Obj)} {vs : List Value} {n : Nat} {k : Int} {u : Tok}
theorem sub_any {value slice : PySem.Expr} {Q : Value → Shared → Prop} (N : News h₀ L s.heap news) (hm : (D, listOf vs.toArray n) ∈ news) (h0 : 0 ≤ k) (h1 : k < vs.length) (hfit : k < 2 ^ 63) (h : Q (vs.getD k.toNat .none) s)
    (hs : subscripted slice false (.ref D) (.int k u) = operate [.ref D, .int k u] (getItem (.ref D) (.int k u)) := by with_unfolding_all rfl) :
    wpAny (model prog w) A (subscriptTail value slice (.ref D) (.int k u)) Q E s := by
  have hl : s.heap.IsList D vs.toArray := PySem.IsL.isList (n := n) (N _ hm).1
  have hx : vs.toArray[k.toNat]? = some (vs.getD k.toNat .none) := by
    have : k.toNat < vs.length := by omega
    simp [List.getD_eq_getElem?_getD, this]
  exact tail_any hl.typeIs slot_list_getitem.lookup (wpAny_getItem_list hl h0 hfit hx h) hs
theorem sub_told {value slice : PySem.Expr} {Q : Value → Shared → Prop} {wd : Int} {base : List (Addr × Obj)} (N : News h₀ L s.heap news) (hf : ∀ i, i < 11 → LD base (vs.getD i .none) wd (fibZ i)) (hb : ∀ p ∈ base, p ∈ news) (hlen : vs.length = 11) (hm : (D, listOf vs.toArray n) ∈ news) (h0 : 0 ≤ k) (h1 : k < 11)
    (h : ∀ a us kk xs, News h₀ L s.heap ((a, listOf us.toArray kk) :: news) → IntsAre us xs → Dg (2 ^ wd.toNat) xs (fibZ k.toNat) → Q (.ref a) s)
    (hs : subscripted slice false (.ref D) (.int k u) = operate [.ref D, .int k u] (getItem (.ref D) (.int k u)) := by with_unfolding_all rfl) :
    wpAny (model prog w) A (subscriptTail value slice (.ref D) (.int k u)) Q E s := by
  refine sub_any N hm h0 (by omega) (by omega) ?_ hs
  obtain ⟨a, us, kk, xs, e, hm', hi, hg⟩ := hf k.toNat (by omega)
  rw [e]
  exact h a us kk xs (news_at N (hb _ hm')) hi hg
end
theorem cmp_ge {m n : Int} : (0 ≤ cmpI m n → n ≤ m) ∧ (¬ 0 ≤ cmpI m n → m < n) := by
  unfold cmpI
  by_cases h : m < n
  · rw [if_pos h]; exact ⟨fun h => by omega, fun _ => h⟩
  · rw [if_neg h]; exact ⟨fun _ => by omega, fun q => by split at q <;> omega⟩
end
/- part base3 -/
section
noncomputable def omLoop : Nat → Int → List Int → Int × List Int
  | 0, p, l => (p, l)
  | f + 1, p, l => if l.any (· == p + 1) = true then omLoop f (p + 2) (l.filter (· != p + 1)) else (p, l)
noncomputable def omFuel (p : Int) : Nat := (24 - p).toNat / 2
noncomputable def omFirst (xs : List Int) : Int × List Int := if xs.any (· == 2) = true then (3, xs.filter (· != 2)) else if xs.any (· == 3) = true then (4, xs.filter (· != 3)) else (2, xs)
noncomputable def omAll (xs : List Int) : Int × List Int := omLoop (omFuel (omFirst xs).1) (omFirst xs).1 (omFirst xs).2
noncomputable def moreC : Con (List Int) where
  Rel := fun news vs d => ∃ v, vs = [v] ∧ LI news v d
  Ok := fun d => d.length < 50 ∧ ∀ x ∈ d, x ≤ 20
  size := 8
  Out := fun d r tl => ∃ (a : Addr) (us : List Value) (k : Nat), r = .ref a ∧ tl = [(a, listOf us.toArray k)] ∧ ∃ ys, IntsAre us ys ∧ ys.Perm ((omAll d).2 ++ [(omAll d).1]) ∧ ys.Pairwise (· ≤ ·)
noncomputable def lotsL : Nat → List (List Int)
  | 0 => [[]]
  | k + 1 => lotsL k ++ ((lotsL k).filter (fun l => l == [] || decide (l.getLast?.getD 0 < ((k : Int) + 2) - 1))).map (· ++ [(k : Int) + 2])
noncomputable def lotsC : Con Int where
  Rel := fun _ vs d => ∃ t, vs = [.int d t]
  Ok := fun d => 3 ≤ d ∧ d ≤ 7
  size := 14
  Out := fun d r tl => ∃ (a : Addr) (rs : List Value) (k : Nat) (led : List (Addr × Obj)), r = .ref a ∧ tl = (a, listOf rs.toArray k) :: led ∧ (∀ i : Nat, ∀ v, rs[i]? = some v → ∃ a us k xs, v = .ref a ∧ (lotsL (d - 2).toNat)[i]? = some xs ∧ (a, listOf us.toArray k) ∈ led ∧ IntsAre us xs) ∧ rs.length = (lotsL (d - 2).toNat).length
end
/- part loops -/
section
section
variable {prog : Program} {w : World} {A : Around} {E : Value → Shared → Prop} {s : Shared} {env : Env} {h₀ : Heap} {x : Str} {body : List Stmt} {Q : Flow → Shared → Prop}
/-- the end of a turn that may make new things and keep them -/
noncomputable def TurnE {σ : Type} (h₀ : Heap) (L : Addr) (Led : σ → List (Addr × Obj)) (ps : σ → List (Str × Value)) (x : Str) (stored : List Str) (m₀ : Str → Option Value) (P : σ → Prop) (own : List (Addr × Obj)) (s₁ : Shared) (s₂ : Shared) : Prop :=
  ∃ (c' : σ) (h' : Heap) (tk : Nat) (m' : Str → Option Value) (news' : List (Addr × Obj)), s₂ = { s₁ with heap := h', toks := tk } ∧ Fr h₀ L h' m' ∧ News h₀ L h' news' ∧ (∀ p ∈ Led c', p ∈ news') ∧ (∀ p ∈ own, p ∈ news') ∧ (∀ p ∈ ps c', m' p.1 = some p.2) ∧
    (∀ z, z ≠ x → (∀ p ∈ ps c', z ≠ p.1) → stored.contains z = false → m' z = m₀ z) ∧ P c'
noncomputable def TurnP {σ : Type} (h₀ : Heap) (L : Addr) (Led : σ → List (Addr × Obj)) (ps : σ → List (Str × Value)) (x : Str) (stored : List Str) (m₀ : Str → Option Value) (P : σ → Prop) (own : List (Addr × Obj)) (s₁ : Shared) (Q : Flow → Shared → Prop) (f : Flow) (s₂ : Shared) : Prop :=
  match f with
  | .ret v => Q (.ret v) s₂
  | .brk => Q .next s₂
  | _ => TurnE h₀ L Led ps x stored m₀ P own s₁ s₂
theorem turn_end {σ : Type} {L : Addr} {Led : σ → List (Addr × Obj)} {ps : σ → List (Str × Value)} {stored : List Str} {m₀ m' : Str → Option Value} {P : σ → Prop} {own news' : List (Addr × Obj)} {s₁ : Shared} {h' : Heap} {tk : Nat} (c' : σ)
    (F : Fr h₀ L h' m') (N : News h₀ L h' news') (hn : ∀ p ∈ Led c', p ∈ news') (ho : ∀ p ∈ own, p ∈ news') (hk : ∀ p ∈ ps c', m' p.1 = some p.2) (hr : ∀ z, z ≠ x → (∀ p ∈ ps c', z ≠ p.1) → stored.contains z = false → m' z = m₀ z) (hp : P c') :
    TurnE h₀ L Led ps x stored m₀ P own s₁ { s₁ with heap := h', toks := tk } := ⟨c', h', tk, m', news', rfl, F, N, hn, ho, hk, hr, hp⟩

theorem for_range2 {σ : Type} {r : Addr} {a₀ b₀ st : Int} {t₀ u₀ v₀ : Tok} {n : Nat} {m₀ : Str → Option Value} (dyn : σ → List (Addr × Obj)) (base : List (Addr × Obj)) (ps : σ → List (Str × Value)) (stored : List Str) (kf : Nat → Int) (P : Nat → σ → Prop) (c₀ : σ)
    (hkf : ∀ i, i < n → a₀ + (i : Int) * st = kf i) (hh : A.handled = none) (hr : IsRange s.heap r a₀ b₀ st t₀ u₀ v₀) (hsmall : Builtin.Range.small a₀ b₀ st = true) (hn : Builtin.Range.rangeSize a₀ b₀ st = (n : Int)) (F : Fr h₀ env.locals s.heap m₀) (N : News h₀ env.locals s.heap (dyn c₀ ++ base)) (hk : ∀ p ∈ ps c₀, m₀ p.1 = some p.2) (hp : P 0 c₀)
    (hc : ∀ i c, P i c → ∀ p ∈ dyn c, ¬ (p.2.cls = .type "range_iterator" ∧ ∃ fs, p.2.data = .fields fs))
    (turn : ∀ (c : σ) (i : Nat) t (u : Str → Option Value) h tk own, i < n → P i c → (∀ p ∈ own, ∀ v, p.2.data ≠ .cell v) →
      Fr h₀ env.locals h (fun y => if y = x then some (.int (kf i) t) else kstB (fun z => if stored.contains z then u z else m₀ z) (ps c) y) → News h₀ env.locals h ((dyn c ++ base) ++ own) →
      wpAny (model prog w) A (execs body env) (TurnP h₀ env.locals (fun c => dyn c ++ base) ps x stored m₀ (P (i + 1)) own { s with heap := h, toks := tk } Q) E { s with heap := h, toks := tk })
    (done : ∀ (c : σ) (u : Str → Option Value) h tk, P n c → Fr h₀ env.locals h (fun y => if y = x then u y else kstB (fun z => if stored.contains z then u z else m₀ z) (ps c) y) → News h₀ env.locals h (dyn c ++ base) → Q .next { s with heap := h, toks := tk }) :
    wpAny (model prog w) A (pyIter (.ref r)) (fun it s₂ => LoopAtV prog w A h₀ env x body Q E it s₂) E s := by
  refine wpAny_pyIter_range hr hsmall ?_
  have W : Walks prog w A s.heap.objs.size [s.heap.objs.size] [s.heap.objs.size] n (fun i v => i < n ∧ ∃ t, v = .int (a₀ + i * st) t)
      (fun i h => IsRangeIter h s.heap.objs.size (a₀ + (i : Nat) * st) ((n : Int) - (i : Nat)) st) := (Walks.range hh _ a₀ st n).bound
  have off : ∀ {h' : Heap} {c : σ} {i : Nat} {l r : Int} , P i c → News h₀ env.locals h' (dyn c ++ base) → IsRangeIter h' s.heap.objs.size l r st → ∀ p ∈ dyn c ++ base, p.1 ∉ [s.heap.objs.size] := by
    intro h' c i l r hPc N' hit p hp hI
    have e : p.1 = s.heap.objs.size := List.mem_singleton.mp hI
    rcases List.mem_append.mp hp with h1 | h1
    · have g := (N' p hp).1
      rw [e, hit] at g
      exact hc i c hPc p h1 ⟨by rw [← Option.some.inj g], _, by rw [← Option.some.inj g]⟩
    · exact absurd (Heap.lt_size (N p (List.mem_append_right _ h1)).1) (e ▸ Nat.lt_irrefl _)
  let J : Nat → (Str → Option Value) → List (Addr × Obj) → Prop := fun i m nx => ∃ c, nx = dyn c ++ base ∧ (∀ p ∈ ps c, m p.1 = some p.2) ∧ (∀ z, z ≠ x → (∀ p ∈ ps c, z ≠ p.1) → stored.contains z = false → m z = m₀ z) ∧ P i c
  refine ⟨_, _, _, n, _, _, m₀, dyn c₀ ++ base, J, rfl, W, ?_, ?_, ?_, (by show IsRangeIter _ _ _ _ _; rw [hn]; simpa using Heap.get?_push_size _ rfl), F.push _, (fun p hp => ⟨Heap.get?_push_of_some _ (N p hp).1, (N p hp).2⟩), ⟨c₀, rfl, hk, fun _ _ _ _ => rfl, hp⟩, ?_, ?_⟩
  · intro hm
    exact absurd F.ns.lt ((List.mem_singleton.mp hm) ▸ Nat.lt_irrefl _)
  · intro b hb
    rw [List.mem_singleton.mp hb]
    exact next_is_new F
  · intro p hp hI
    exact absurd (Heap.lt_size (N p hp).1) ((List.mem_singleton.mp hI) ▸ Nat.lt_irrefl _)
  · rintro i v m₁ nx s₁ own ⟨hh', tk', rfl⟩ hi ⟨_, t, rfl⟩ ⟨c, rfl, h1, h2, hp'⟩ hoff hsub hget hall hst F₁ N₁
    have hIt : (s.heap.objs.size, { cls := .type "range_iterator", dict := none, data := .fields #[rawInt (a₀ + ((i + 1 : Nat) : Int) * st), rawInt ((n : Int) - ((i + 1 : Nat) : Int)), rawInt st], slots := #[] }) ∈ own :=
      hall _ (List.mem_singleton.mpr rfl) (next_is_new F) _ hst
    have N₂ : News h₀ env.locals hh' ((dyn c ++ base) ++ own) := fun p hp => N₁ p ((List.mem_append.mp hp).elim (fun h => List.mem_append.mpr (.inr h)) fun h => List.mem_append.mpr (.inl h))
    rw [hkf i hi] at F₁
    have hoc : ∀ p ∈ own, ∀ v, p.2.data ≠ .cell v := by
      intro p hp v e
      have g := hget p hp
      rw [show p.1 = s.heap.objs.size from List.mem_singleton.mp (hsub p hp), hst] at g
      rw [← Option.some.inj g] at e
      cases e
    refine wpAny_mono (turn c i t m₁ hh' tk' own hi hp' hoc (kst_fr h1 h2 F₁) N₂) (fun f s₂ p => ?_) fun _ _ e => e
    have fin : TurnE h₀ env.locals (fun c => dyn c ++ base) ps x stored m₀ (P (i + 1)) own { s with heap := hh', toks := tk' } s₂ → LoopStepU h₀ env.locals [s.heap.objs.size] own (J (i + 1)) { s with heap := hh', toks := tk' } .next s₂ := by
      rintro ⟨c', h', tk, m', news', e, F', N', hn', ho, hk', hr', hP⟩
      have Nx : News h₀ env.locals h' (dyn c' ++ base) := fun p hp => N' p (hn' p hp)
      refine ⟨rfl, h', tk, m', dyn c' ++ base, e, F', fun p hp => N' p ((List.mem_append.mp hp).elim (ho p) (hn' p)), ?_, c', rfl, hk', hr', hP⟩
      exact off hP Nx (N' _ (ho _ hIt)).1
    cases f with
    | ret v => exact .ret p
    | brk => exact .brk p
    | next => exact .next (fin p)
    | cont => exact .cont (fin p)
  · rintro h' tk m' news' F' N' _ ⟨c, rfl, h1, h2, hp'⟩
    exact done c m' h' tk hp' (kst_frOut h1 h2 F') N'

theorem for_ints {σ : Type} {l : Addr} {vs : List Value} {ns : List Int} {nn : Nat} {m₀ : Str → Option Value} (dyn : σ → List (Addr × Obj)) (base : List (Addr × Obj)) (ps : σ → List (Str × Value)) (stored : List Str) (P : Nat → σ → Prop) (c₀ : σ)
    (hh : A.handled = none) (hl : (l, listOf vs.toArray nn) ∈ base) (hi : IntsAre vs ns) (F : Fr h₀ env.locals s.heap m₀) (N : News h₀ env.locals s.heap (dyn c₀ ++ base)) (hk : ∀ p ∈ ps c₀, m₀ p.1 = some p.2) (hp : P 0 c₀)
    (hc : ∀ c, ∀ p ∈ dyn c, p.2.cls ≠ .type "list_iterator")
    (turn : ∀ (c : σ) (i : Nat) n t (u : Str → Option Value) h tk own, ns[i]? = some n → P i c →
      Fr h₀ env.locals h (fun y => if y = x then some (.int n t) else kstB (fun z => if stored.contains z then u z else m₀ z) (ps c) y) → News h₀ env.locals h ((dyn c ++ base) ++ own) →
      wpAny (model prog w) A (execs body env) (TurnP h₀ env.locals (fun c => dyn c ++ base) ps x stored m₀ (P (i + 1)) own { s with heap := h, toks := tk } Q) E { s with heap := h, toks := tk })
    (done : ∀ (c : σ) (u : Str → Option Value) h tk, P ns.length c → Fr h₀ env.locals h (fun y => if y = x then u y else kstB (fun z => if stored.contains z then u z else m₀ z) (ps c) y) → News h₀ env.locals h (dyn c ++ base) → Q .next { s with heap := h, toks := tk }) :
    wpAny (model prog w) A (pyIter (.ref l)) (fun it s₂ => LoopAtV prog w A h₀ env x body Q E it s₂) E s := by
  have hlb : (l, listOf vs.toArray nn) ∈ dyn c₀ ++ base := List.mem_append_right _ hl
  have hol : s.heap.get? l = some (listOf vs.toArray nn) := (N _ hlb).1
  have hls : s.heap.IsList l vs.toArray := ⟨_, hol, rfl, nn, rfl⟩
  have hne : l ≠ s.heap.objs.size := Nat.ne_of_lt (Heap.lt_size hol)
  refine wpAny_pyIter_list hls ?_
  have W := Walks.list (prog := prog) (w := w) hh s.heap.objs.size l hne vs.toArray
  have hlen : vs.toArray.size = ns.length := by simp [hi.length]
  rw [hlen] at W
  have off : ∀ {h' : Heap} {c : σ} {j : Nat}, News h₀ env.locals h' (dyn c ++ base) → h'.IsListIter s.heap.objs.size l j → ∀ p ∈ dyn c ++ base, p.1 ∉ [s.heap.objs.size] := by
    intro h' c j N' hit p hp hI
    have e : p.1 = s.heap.objs.size := List.mem_singleton.mp hI
    rcases List.mem_append.mp hp with h1 | h1
    · have g := (N' p hp).1
      obtain ⟨o, ho, hcl, _⟩ := hit
      rw [e, ho] at g
      exact hc c p h1 (by rw [← Option.some.inj g]; exact hcl)
    · exact absurd (Heap.lt_size (N p (List.mem_append_right _ h1)).1) (e ▸ Nat.lt_irrefl _)
  let J : Nat → (Str → Option Value) → List (Addr × Obj) → Prop := fun i m nx => ∃ c, nx = dyn c ++ base ∧ (∀ p ∈ ps c, m p.1 = some p.2) ∧ (∀ z, z ≠ x → (∀ p ∈ ps c, z ≠ p.1) → stored.contains z = false → m z = m₀ z) ∧ P i c
  refine ⟨_, _, _, ns.length, _, _, m₀, dyn c₀ ++ base, J, rfl, W, ?_, ?_, ?_, ⟨⟨_, Heap.get?_push_size _ rfl, rfl, rfl⟩, hls.at fun o e => Heap.get?_push_of_some _ e⟩, F.push _, (fun p hp => ⟨Heap.get?_push_of_some _ (N p hp).1, (N p hp).2⟩), ⟨c₀, rfl, hk, fun _ _ _ _ => rfl, hp⟩, ?_, ?_⟩
  · intro hm
    rcases List.mem_cons.mp hm with e | hm
    · exact absurd F.ns.lt (e ▸ Nat.lt_irrefl _)
    · exact (N _ hlb).2.1 ((List.mem_singleton.mp hm).symm)
  · intro b hb
    rw [List.mem_singleton.mp hb]
    exact next_is_new F
  · intro p hp hI
    exact absurd (Heap.lt_size (N p hp).1) ((List.mem_singleton.mp hI) ▸ Nat.lt_irrefl _)
  · rintro i v m₁ nx s₁ own ⟨hh', tk', rfl⟩ hin hP ⟨c, rfl, h1, h2, hp'⟩ hoff hsub hget hall hst F₁ N₁
    obtain ⟨oI, hoI, hcI, hdI⟩ := hst.1
    have hIt : (s.heap.objs.size, oI) ∈ own := hall _ (.head _) (next_is_new F) _ hoI
    have hlt' : i < ns.length := hin
    obtain ⟨t, hx⟩ := hi.get i ns[i] (by simp [hlt'])
    have hv : v = .int ns[i] t := by
      have hP' : vs[i]? = some v := by simpa using hP
      rw [hx] at hP'; exact (Option.some.inj hP').symm
    subst hv
    have N₂ : News h₀ env.locals hh' ((dyn c ++ base) ++ own) := fun p hp => N₁ p ((List.mem_append.mp hp).elim (fun h => List.mem_append.mpr (.inr h)) fun h => List.mem_append.mpr (.inl h))
    refine wpAny_mono (turn c i ns[i] t m₁ hh' tk' own (by simp [hlt']) hp' (kst_fr h1 h2 F₁) N₂) (fun f s₂ p => ?_) fun _ _ e => e
    have fin : TurnE h₀ env.locals (fun c => dyn c ++ base) ps x stored m₀ (P (i + 1)) own { s with heap := hh', toks := tk' } s₂ → LoopStepU h₀ env.locals [s.heap.objs.size] own (J (i + 1)) { s with heap := hh', toks := tk' } .next s₂ := by
      rintro ⟨c', h', tk, m', news', e, F', N', hn', ho, hk', hr', hP⟩
      have Nx : News h₀ env.locals h' (dyn c' ++ base) := fun p hp => N' p (hn' p hp)
      refine ⟨rfl, h', tk, m', dyn c' ++ base, e, F', fun p hp => N' p ((List.mem_append.mp hp).elim (ho p) (hn' p)), ?_, c', rfl, hk', hr', hP⟩
      exact off (j := i + 1) Nx ⟨oI, (N' _ (ho _ hIt)).1, hcI, hdI⟩
    cases f with
    | ret v => exact .ret p
    | brk => exact .brk p
    | next => exact .next (fin p)
    | cont => exact .cont (fin p)
  · rintro h' tk m' news' F' N' _ ⟨c, rfl, h1, h2, hp'⟩
    exact done c m' h' tk hp' (kst_frOut h1 h2 F') N'
end

section
variable {prog : Program} {w : World} {A : Around} {E : Value → Shared → Prop} {s : Shared} {env : Env} {h₀ : Heap} {xi xc : Str} {body : List Stmt}
theorem call_enumL {L l : Addr} {vs : List Value} {nn : Nat} {m : Str → Option Value} {news : List (Addr × Obj)} {Q : Value → Shared → Prop} (F : Fr h₀ L s.heap m) (N : News h₀ L s.heap news) (hm : (l, listOf vs.toArray nn) ∈ news)
    (h : ∀ h' (it : Nat), Fr h₀ L h' m → News h₀ L h' news → IsEnum h' (it + 1) it 0 .none → h'.IsListIter it l 0 → (∀ p ∈ news, @LT.lt Nat _ p.1 it) → @LT.lt Nat _ L it → Q (.ref (it + 1)) { s with heap := h' }) :
    wpAny (model prog w) A (call (.type "enumerate") [.ref l]) Q E s := by
  have hls : s.heap.IsList l vs.toArray := ⟨_, (N _ hm).1, rfl, nn, rfl⟩
  refine call_enumerate_list hls fun h' he hit hsz hk => ?_
  exact h h' s.heap.objs.size ⟨F.ns.keeps hk, fun b o e => hk b o (F.keep b o e), F.above⟩ (fun p hp => ⟨hk _ _ (N p hp).1, (N p hp).2⟩) he hit (fun p hp => Heap.lt_size (N p hp).1) F.ns.lt

theorem kst_enum {σ : Type} {l it : Nat} {vs : List Value} {ns : List Int} {nn : Nat} {m₀ : Str → Option Value} {Q : Flow → Shared → Prop} (Led : σ → List (Addr × Obj)) (ps : σ → List (Str × Value)) (Facts : σ → Prop) (stored : List Str) (P : List Int → σ → Prop) (c₀ : σ)
    (hh : A.handled = none) (he : IsEnum s.heap (it + 1) it 0 .none) (hit : s.heap.IsListIter it l 0) (hlt : ∀ p ∈ Led c₀, @LT.lt Nat _ p.1 it) (hLt : @LT.lt Nat _ env.locals it) (hst : stored.contains xi = true) (hix : xi ≠ xc) (hps : ∀ c, ∀ p ∈ ps c, p.1 ≠ xi)
    (hl : ∀ c : σ, (l, listOf vs.toArray nn) ∈ Led c) (hi : IntsAre vs ns) (F : Fr h₀ env.locals s.heap m₀) (N : News h₀ env.locals s.heap (Led c₀)) (hf : Facts c₀) (hk : ∀ p ∈ ps c₀, m₀ p.1 = some p.2) (hp : P [] c₀)
    (turn : ∀ (c : σ) pre post n t ti (u : Str → Option Value) h tk own, ns = pre ++ n :: post → OwnOff own ((Led c₀).map (·.1)) → Facts c → P pre c →
      Fr h₀ env.locals h (fun y => if y = xc then some (.int n t) else if y = xi then some (.int (pre.length : Int) ti) else kstB (fun z => if stored.contains z then u z else m₀ z) (ps c) y) → News h₀ env.locals h (Led c ++ own) →
      wpAny (model prog w) A (execs body env) (InvPostN h₀ env.locals (KstS Led ps Facts xc stored m₀ P (pre ++ [n])) own ((Led c₀).map (·.1)) { s with heap := h, toks := tk } Q) E { s with heap := h, toks := tk })
    (done : ∀ (c : σ) (u : Str → Option Value) h tk, Facts c → P ns c → Fr h₀ env.locals h (fun y => if y = xc then u y else kstB (fun z => if stored.contains z then u z else m₀ z) (ps c) y) → News h₀ env.locals h (Led c) → Q .next { s with heap := h, toks := tk }) :
    wpAny (model prog w) A (pyIter (.ref (it + 1))) (fun it' s₂ => PairAt3 prog w A h₀ env xi xc body Q E it' s₂) E s := by
  have hol : s.heap.get? l = some (listOf vs.toArray nn) := (N _ (hl c₀)).1
  have hls : s.heap.IsList l vs.toArray := ⟨_, hol, rfl, nn, rfl⟩
  have hll : l < it := hlt _ (hl c₀)
  refine wpAny_pyIter_enum he ?_
  have W := WalksT.enumerate (prog := prog) (w := w) hh (it + 1) it l (Nat.succ_ne_self _) (Nat.ne_of_lt (Nat.lt_succ_of_lt hll)) (Nat.ne_of_lt hll) vs.toArray
  have hlen : vs.toArray.size = ns.length := by simp [hi.length]
  rw [hlen] at W
  have hab : @LE.le Nat _ h₀.objs.size env.locals := F.above
  refine ⟨it + 1, _, _, ns.length, _, _, _, (fun i v0 v1 => ∃ t, v0 = .int i t ∧ vs.toArray[i]? = some v1), m₀, Led c₀, (fun i m nx => KstS Led ps Facts xc stored m₀ P (ns.take i) m nx), rfl, W, ?_, ?_, ?_, ?_, ⟨⟨_, by simpa using he⟩, hit, hls⟩, F, N, ⟨c₀, rfl, hf, hk, fun _ _ _ _ => rfl, by simpa using hp⟩, ?_, ?_⟩
  · rintro i vals ⟨t, x, hx, rfl⟩
    exact ⟨_, _, rfl, t, rfl, hx⟩
  · intro hm
    simp only [List.mem_cons, List.not_mem_nil, or_false] at hm
    rcases hm with e | e | e
    · exact absurd e (Nat.ne_of_lt (Nat.lt_succ_of_lt hLt))
    · exact absurd e (Nat.ne_of_lt hLt)
    · exact (N _ (hl c₀)).2.1 e.symm
  · intro b hb
    simp only [List.mem_cons, List.not_mem_nil, or_false] at hb
    rcases hb with e | e
    · rw [e]; exact Heap.get?_none_of_le (Nat.le_trans hab (Nat.le_of_lt (Nat.lt_succ_of_lt hLt)))
    · rw [e]; exact Heap.get?_none_of_le (Nat.le_trans hab (Nat.le_of_lt hLt))
  · intro p hp hb
    have h9 := hlt p hp
    simp only [List.mem_cons, List.not_mem_nil, or_false] at hb
    rcases hb with e | e
    · exact absurd e (Nat.ne_of_lt (Nat.lt_succ_of_lt h9))
    · exact absurd e (Nat.ne_of_lt h9)
  · rintro i v0 v1 m₁ nx s₁ own ⟨hh', tk', rfl⟩ hin ⟨ti, rfl, hP⟩ ⟨c, rfl, hf', h1, h2, hp'⟩ hadr hown F₁ N₁
    have hlt' : i < ns.length := hin
    obtain ⟨t, hx⟩ := hi.get i ns[i] (by simp [hlt'])
    have hv : v1 = .int ns[i] t := by
      have hP' : vs[i]? = some v1 := by simpa using hP
      rw [hx] at hP'; exact (Option.some.inj hP').symm
    subst hv
    have hn : ns[i]? = some ns[i] := by simp [hlt']
    have hs : ns.take (i + 1) = ns.take i ++ [ns[i]] := by rw [List.take_add_one, hn]; rfl
    have e : ns = ns.take i ++ ns[i] :: ns.drop (i + 1) := by
      have ht := List.take_append_drop (i + 1) ns
      rw [hs, List.append_assoc] at ht
      exact ht.symm
    have hli : (ns.take i).length = i := by rw [List.length_take]; omega
    have hsep : OwnOff (own.filter fun p => decide (@LE.le Nat _ it p.1)) ((Led c₀).map (·.1)) := by
      intro p hp b hb e
      obtain ⟨q, hq, rfl⟩ := List.mem_map.mp hb
      have h1 : @LE.le Nat _ it p.1 := of_decide_eq_true (List.mem_filter.mp hp).2
      exact absurd e (Nat.ne_of_gt (Nat.lt_of_lt_of_le (hlt q hq) h1))
    have N₂ : News h₀ env.locals hh' (Led c ++ own.filter fun p => decide (@LE.le Nat _ it p.1)) := fun p hp => N₁ p ((List.mem_append.mp hp).elim (fun h => List.mem_append.mpr (.inr h)) fun h => List.mem_append.mpr (.inl ((List.mem_filter.mp h).1)))
    have F₂ : Fr h₀ env.locals hh' (fun y => if y = xc then some (.int ns[i] t) else if y = xi then some (.int ((ns.take i).length : Int) ti) else kstB (fun z => if stored.contains z then m₁ z else m₀ z) (ps c) y) := by
      have em : (fun y => if y = xc then some (Value.int ns[i] t) else if y = xi then some (.int ((ns.take i).length : Int) ti) else kstB (fun z => if stored.contains z then m₁ z else m₀ z) (ps c) y) = fun y => if y = xc then some (Value.int ns[i] t) else if y = xi then some (.int (i : Int) ti) else m₁ y := by
        funext y
        rw [hli]
        by_cases h5 : y = xc
        · rw [if_pos h5, if_pos h5]
        · rw [if_neg h5, if_neg h5]
          by_cases h6 : y = xi
          · rw [if_pos h6, if_pos h6]
          · rw [if_neg h6, if_neg h6]
            exact kst_off h1 h2 h5
      rw [em]; exact F₁
    have hlo : hh'.get? l = some (listOf vs.toArray nn) := (N₁ _ (List.mem_append.mpr (.inr (hl c)))).1
    show wpAny _ _ _ (LoopStep3 h₀ env.locals own (Led c) (fun m nx => KstS Led ps Facts xc stored m₀ P (ns.take (i + 1)) m nx) _ _ _) _ _
    rw [hs]
    refine wpAny_mono (turn c (ns.take i) _ ns[i] t ti m₁ hh' tk' _ e hsep hf' hp' F₂ N₂) (fun f s₂ p => ?_) fun _ _ x => x
    have fin : InvEndN h₀ env.locals (KstS Led ps Facts xc stored m₀ P (ns.take i ++ [ns[i]])) (own.filter fun p => decide (@LE.le Nat _ it p.1)) ((Led c₀).map (·.1)) { s with heap := hh', toks := tk' } s₂ →
        LoopStep2 h₀ env.locals own (Led c) (fun m nx => KstS Led ps Facts xc stored m₀ P (ns.take i ++ [ns[i]]) m nx) { s with heap := hh', toks := tk' } .next s₂ := by
      rintro ⟨h', tk, m', news', nx, e', F', N', hn', ho', ha, hS⟩
      refine ⟨rfl, h', tk, m', nx, e', F', fun p hp => ?_, ha.trans hadr.symm, hS⟩
      rcases List.mem_append.mp hp with h | h
      · by_cases hI : @LE.le Nat _ it p.1
        · exact N' p (ho' p (List.mem_filter.mpr ⟨h, decide_eq_true hI⟩))
        · have h3 : p.1 = l := by
            have h8 := hown p h
            simp only [List.mem_cons, List.not_mem_nil, or_false] at h8
            rcases h8 with h4 | h4 | h4
            · exact absurd (show @LE.le Nat _ it p.1 by rw [h4]; exact Nat.le_succ _) hI
            · exact absurd (show @LE.le Nat _ it p.1 by rw [h4]; exact Nat.le_refl _) hI
            · exact h4
          have h2 : hh'.get? p.1 = some p.2 := (N₁ p (List.mem_append.mpr (.inl h))).1
          rw [h3, hlo] at h2
          have h4 : p = (l, listOf vs.toArray nn) := Prod.ext h3 (Option.some.inj h2).symm
          rw [h4]
          obtain ⟨c', rfl, _⟩ := hS
          exact N' _ (hn' _ (hl c'))
      · exact N' p (hn' p h)
    cases f with
    | ret v => exact p
    | brk => exact p
    | next => exact fin p
    | cont => exact fin p
  · rintro h' tk m' news' F' N' _ ⟨c, rfl, hf', h1, h2, hp'⟩
    rw [List.take_length] at hp'
    exact done c m' h' tk hf' hp' (kst_frOut h1 h2 F') N'
end
end
/- part normal -/
section
theorem normal_ok : Keeps 46 normalC := by
  w_top off
  unfold Keeps
  k_fill
  intro w mean mg mb d dp un gd cn cs a ccd cl outer A₀ base h₀ L m news s vs Q E B F X N T hk hR hok hd hu hret
  obtain ⟨wd, xs⟩ := d
  obtain ⟨_, rfl, a1, us1, n1, rfl, hm1, hi1⟩ := hR
  dsimp only [normalC] at hok hd hu hret hi1 ⊢
  obtain ⟨hw1, hx1, hL1⟩ := hok
  refine wpAny_call ?_
  k_dflt ktr_enter
  have kMark := kstMark
  rename_i N' _ _ _
  have N2 := news_at N' hm1
  clear N'
  k_with_none
  k_with "state" => (refine And.intro (by omega) (And.intro (by omega) (by first | exact norm_start _ _ | exact norm_step (by assumption) (by assumption) (by assumption))))
  (repeat' (first | (k_unfold; (try dsimp only)) | (k_end; wrow_close) | ((((fail_if_success (with_reducible show wpAny _ _ (PySem.exec (Stmt.While _ _ _ _) _) _ _ _)); (fail_if_success (with_reducible show wpAny _ _ (PySem.exec (Stmt.For _ _ _ _ _) _) _ _ _)); (fail_if_success (with_reducible show wpAny _ _ (pyIter (Value.ref _)) (fun it s₂ => LoopAtV _ _ _ _ _ _ _ _ _ it s₂) _ _)); (fail_if_success (with_reducible show wpAny _ _ (pyIter (Value.ref _)) (fun it s₂ => PairAt3 _ _ _ _ _ _ _ _ _ _ it s₂) _ _)))); first | walk1 | (dsimp only; walk1)) | (leave1; walk_say "STEP leave1"; try dsimp only) | fail "no step"))
  k_while_given ["a"] (fun xs _ e => 0 ≤ e ∧ e ≤ (xs.length : Int) ∧ NormInv (2 ^ wd.toNat) xs e) (fun _ _ e => e.toNat) "end"
  (repeat' (first | (k_unfold; (try dsimp only)) | (k_end; wrow_close) | ((((fail_if_success (with_reducible show wpAny _ _ (PySem.exec (Stmt.While _ _ _ _) _) _ _ _)); (fail_if_success (with_reducible show wpAny _ _ (PySem.exec (Stmt.For _ _ _ _ _) _) _ _ _)); (fail_if_success (with_reducible show wpAny _ _ (pyIter (Value.ref _)) (fun it s₂ => LoopAtV _ _ _ _ _ _ _ _ _ it s₂) _ _)); (fail_if_success (with_reducible show wpAny _ _ (pyIter (Value.ref _)) (fun it s₂ => PairAt3 _ _ _ _ _ _ _ _ _ _ it s₂) _ _)))); first | walk1 | (dsimp only; walk1)) | (leave1; walk_say "STEP leave1"; try dsimp only) | fail "no step"))
  all_goals (
    (rename News _ _ _ _ => kN9)
    (try simp only [List.push_toArray] at kN9)
    (refine' hret _ [(_, listOf (List.toArray _) _)] _ _ (by assumption) (made_one kN9 ?hin ?hsub) (ord_one ?hlt) ⟨_, _, _, _, rfl, rfl, ?hi, ?hd⟩)
    case hin => k_memK
    case hsub => (intro p9 h9; kst_mem)
    case hlt => (first | assumption | exact allLt_of (by assumption) | exact lt_app (by assumption) | exact And.right (by assumption) | exact lt_app (And.right (by assumption)) | exact And.right (And.right (by assumption)) | exact lt_app (And.right (And.right (by assumption))) | exact And.right (And.right (And.right (by assumption))) | exact lt_app (And.right (And.right (And.right (by assumption)))) | exact And.right (And.right (And.right (And.right (by assumption)))) | exact lt_app (And.right (And.right (And.right (And.right (by assumption))))) | exact And.right (And.right (And.right (And.right (And.right (by assumption))))) | exact lt_app (And.right (And.right (And.right (And.right (And.right (by assumption)))))) | exact And.right (And.right (And.right (And.right (And.right (And.right (by assumption)))))) | exact lt_app (And.right (And.right (And.right (And.right (And.right (And.right (by assumption))))))) | exact And.right (And.right (And.right (And.right (And.right (And.right (And.right (by assumption))))))) | exact lt_app (And.right (And.right (And.right (And.right (And.right (And.right (And.right (by assumption)))))))) | exact And.right (And.right (And.right (And.right (And.right (And.right (And.right (And.right (by assumption)))))))) | exact lt_app (And.right (And.right (And.right (And.right (And.right (And.right (And.right (And.right (by assumption))))))))) | exact And.right (And.right (And.right (And.right (And.right (And.right (And.right (And.right (And.right (by assumption))))))))) | exact lt_app (And.right (And.right (And.right (And.right (And.right (And.right (And.right (And.right (And.right (by assumption)))))))))) | exact And.right (And.right (And.right (And.right (And.right (And.right (And.right (And.right (And.right (And.right (by assumption)))))))))) | exact lt_app (And.right (And.right (And.right (And.right (And.right (And.right (And.right (And.right (And.right (And.right (by assumption))))))))))) | exact And.right (And.right (And.right (And.right (And.right (And.right (And.right (And.right (And.right (And.right (And.right (by assumption))))))))))) | exact lt_app (And.right (And.right (And.right (And.right (And.right (And.right (And.right (And.right (And.right (And.right (And.right (by assumption)))))))))))) | exact And.right (And.right (And.right (And.right (And.right (And.right (And.right (And.right (And.right (And.right (And.right (And.right (by assumption)))))))))))) | exact lt_app (And.right (And.right (And.right (And.right (And.right (And.right (And.right (And.right (And.right (And.right (And.right (And.right (by assumption))))))))))))) | exact And.right (And.right (And.right (And.right (And.right (And.right (And.right (And.right (And.right (And.right (And.right (And.right (And.right (by assumption))))))))))))) | exact lt_app (And.right (And.right (And.right (And.right (And.right (And.right (And.right (And.right (And.right (And.right (And.right (And.right (And.right (by assumption)))))))))))))) | exact And.right (And.right (And.right (And.right (And.right (And.right (And.right (And.right (And.right (And.right (And.right (And.right (And.right (And.right (by assumption)))))))))))))) | exact lt_app (And.right (And.right (And.right (And.right (And.right (And.right (And.right (And.right (And.right (And.right (And.right (And.right (And.right (And.right (by assumption))))))))))))))) | exact And.right (And.right (And.right (And.right (And.right (And.right (And.right (And.right (And.right (And.right (And.right (And.right (And.right (And.right (And.right (by assumption))))))))))))))) | exact lt_app (And.right (And.right (And.right (And.right (And.right (And.right (And.right (And.right (And.right (And.right (And.right (And.right (And.right (And.right (And.right (by assumption)))))))))))))))) | exact And.right (And.right (And.right (And.right (And.right (And.right (And.right (And.right (And.right (And.right (And.right (And.right (And.right (And.right (And.right (And.right (by assumption)))))))))))))))) | exact lt_app (And.right (And.right (And.right (And.right (And.right (And.right (And.right (And.right (And.right (And.right (And.right (And.right (And.right (And.right (And.right (And.right (by assumption))))))))))))))))))
    case hi => kst_facts
    case hd => exact norm_done (base_pos _) hL1 (by assumption) (by first | exact .inl (by assumption) | exact .inr (by assumption)))
end
/- part compare -/
section
theorem cmp_start {xs ys : List Int} (h : (xs.length : Int) = ys.length) : CmpInv xs ys (xs.length - ([] : List Int).length) := by
  intro i hi
  have h1 : ¬ i < xs.length := by simp at hi; omega
  have h2 : ¬ i < ys.length := by omega
  simp [List.getD_eq_getElem?_getD, h1, h2]
theorem cmp_step {xs ys pre : List Int} {k : Int} (h : CmpInv xs ys (xs.length - pre.length)) (e : xs.getD k.toNat 0 = ys.getD k.toNat 0) (hk : k = (xs.length : Int) - 1 - pre.length ∧ pre.length < xs.length) : CmpInv xs ys (xs.length - (pre ++ [k]).length) := by
  intro i hi
  rw [List.length_append] at hi
  have l1 : ([k] : List Int).length = 1 := rfl
  by_cases q : i = k.toNat
  · rw [q]; exact e
  · exact h i (by omega)
theorem cmp_here {xs ys : List Int} {k : Nat} {n : Int} (h : CmpInv xs ys k) (e : k = n.toNat + 1) : CmpInv xs ys (n.toNat + 1) := e ▸ h
theorem cmp_all {xs ys : List Int} {a : Int} (h : CmpInv xs ys (xs.length - (downKs a ((xs.length : Int) - 1 - -1).toNat).length)) : CmpInv xs ys 0 := by
  rw [downKs_length] at h
  have e : xs.length - ((xs.length : Int) - 1 - -1).toNat = 0 := by omega
  rwa [e] at h
theorem cmp_k {kN : Int} {l p : Nat} (e : kN = (l : Int) - 1 - (p : Int)) (h : p < ((l : Int) - 1 - -1).toNat) : kN.toNat < l ∧ l - p = kN.toNat + 1 := by omega
theorem compare_ok : Keeps 53 compareC := by
  w_top off
  unfold Keeps
  k_fill
  intro w mean mg mb d dp un gd cn cs a ccd cl outer A₀ base h₀ L m news s vs Q E B F X N T hk hR hok hd hu hret
  obtain ⟨wd, dm, dn⟩ := d
  obtain ⟨_, _, rfl, ⟨a1, us1, n1, xs, rfl, hm1, hi1, hg1⟩, ⟨a2, us2, n2, ys, rfl, hm2, hi2, hg2⟩⟩ := hR
  dsimp only [compareC] at hok hd hu hret hi1 hi2 hg1 hg2 ⊢
  obtain ⟨hw1, hx1, hx2⟩ := hok
  have hB := base_ge hw1
  have hl1 := hg1.len_bound (by omega)
  have hl2 := hg2.len_bound (by omega)
  refine wpAny_call ?_
  k_dflt ktr_enter
  have kMark := kstMark
  rename_i N' _ _ _
  have N2 := news_at (news_at N' hm1) (List.mem_cons_of_mem _ hm2)
  clear N'
  k_with_none
  k_with "state" => (refine And.intro (by kst_p1) (by first | exact cmp_start (by assumption) | exact cmp_step (by assumption) (by assumption) (by omega)))
  (repeat' (first | (k_unfold; (try dsimp only)) | (k_end; wrow_close) | ((((fail_if_success (with_reducible show wpAny _ _ (PySem.exec (Stmt.While _ _ _ _) _) _ _ _)); (fail_if_success (with_reducible show wpAny _ _ (PySem.exec (Stmt.For _ _ _ _ _) _) _ _ _)); (fail_if_success (with_reducible show wpAny _ _ (pyIter (Value.ref _)) (fun it s₂ => LoopAtV _ _ _ _ _ _ _ _ _ it s₂) _ _)); (fail_if_success (with_reducible show wpAny _ _ (pyIter (Value.ref _)) (fun it s₂ => PairAt3 _ _ _ _ _ _ _ _ _ _ it s₂) _ _)))); first | walk1 | (dsimp only; walk1)) | (leave1; walk_say "STEP leave1"; try dsimp only) | fail "no step"))
  · (rename News _ _ _ _ => kN9; refine hret _ [] _ _ (by assumption) (news_sub kN9 (by intro p9 h9; kst_mem)) (fun _ _ _ h => nomatch h) ⟨rfl, ktn_int (Eq.symm ?_)⟩)
    exact cmp_short (by omega) hg1 hg2 (by omega)
  · (rename News _ _ _ _ => kN9; refine hret _ [] _ _ (by assumption) (news_sub kN9 (by intro p9 h9; kst_mem)) (fun _ _ _ h => nomatch h) ⟨rfl, ktn_int (Eq.symm ?_)⟩)
    exact cmp_long (by omega) hg1 hg2 (by omega) (by omega)
  walk_at "for"
  (repeat' (first | (k_unfold; (try dsimp only)) | (k_end; wrow_close) | ((((fail_if_success (with_reducible show wpAny _ _ (PySem.exec (Stmt.While _ _ _ _) _) _ _ _)); (fail_if_success (with_reducible show wpAny _ _ (PySem.exec (Stmt.For _ _ _ _ _) _) _ _ _)); (fail_if_success (with_reducible show wpAny _ _ (pyIter (Value.ref _)) (fun it s₂ => LoopAtV _ _ _ _ _ _ _ _ _ it s₂) _ _)); (fail_if_success (with_reducible show wpAny _ _ (pyIter (Value.ref _)) (fun it s₂ => PairAt3 _ _ _ _ _ _ _ _ _ _ it s₂) _ _)))); first | walk1 | (dsimp only; walk1)) | (leave1; walk_say "STEP leave1"; try dsimp only) | fail "no step"))
  k_state_given ["a", "b"] (fun xs ys pre a => a = xs ∧ CmpInv xs ys (xs.length - pre.length)) "a"
  · (repeat' (first | (k_unfold; (try dsimp only)) | (k_end; wrow_close) | ((((fail_if_success (with_reducible show wpAny _ _ (PySem.exec (Stmt.While _ _ _ _) _) _ _ _)); (fail_if_success (with_reducible show wpAny _ _ (PySem.exec (Stmt.For _ _ _ _ _) _) _ _ _)); (fail_if_success (with_reducible show wpAny _ _ (pyIter (Value.ref _)) (fun it s₂ => LoopAtV _ _ _ _ _ _ _ _ _ it s₂) _ _)); (fail_if_success (with_reducible show wpAny _ _ (pyIter (Value.ref _)) (fun it s₂ => PairAt3 _ _ _ _ _ _ _ _ _ _ it s₂) _ _)))); first | walk1 | (dsimp only; walk1)) | (leave1; walk_say "STEP leave1"; try dsimp only) | fail "no step"))
    · (rename News _ _ _ _ => kN9; refine hret _ [] _ _ (by assumption) (news_sub kN9 (by intro p9 h9; kst_mem)) (fun _ _ _ h => nomatch h) ⟨rfl, ktn_int (Eq.symm ?_)⟩)
      exact cmp_is_lt (k := kN.toNat) (by omega) hg1 hg2 (cmp_k (by assumption) (by assumption)).1 (by omega) (cmp_here (by assumption) (cmp_k (by assumption) (by assumption)).2) (by assumption)
    · (rename News _ _ _ _ => kN9; refine hret _ [] _ _ (by assumption) (news_sub kN9 (by intro p9 h9; kst_mem)) (fun _ _ _ h => nomatch h) ⟨rfl, ktn_int (Eq.symm ?_)⟩)
      exact cmp_is_gt (k := kN.toNat) (by omega) hg1 hg2 (cmp_k (by assumption) (by assumption)).1 (by omega) (cmp_here (by assumption) (cmp_k (by assumption) (by assumption)).2) (by assumption) (by assumption)
  (repeat' (first | (k_unfold; (try dsimp only)) | (k_end; wrow_close) | ((((fail_if_success (with_reducible show wpAny _ _ (PySem.exec (Stmt.While _ _ _ _) _) _ _ _)); (fail_if_success (with_reducible show wpAny _ _ (PySem.exec (Stmt.For _ _ _ _ _) _) _ _ _)); (fail_if_success (with_reducible show wpAny _ _ (pyIter (Value.ref _)) (fun it s₂ => LoopAtV _ _ _ _ _ _ _ _ _ it s₂) _ _)); (fail_if_success (with_reducible show wpAny _ _ (pyIter (Value.ref _)) (fun it s₂ => PairAt3 _ _ _ _ _ _ _ _ _ _ it s₂) _ _)))); first | walk1 | (dsimp only; walk1)) | (leave1; walk_say "STEP leave1"; try dsimp only) | fail "no step"))
  (rename News _ _ _ _ => kN9; refine hret _ [] _ _ (by assumption) (news_sub kN9 (by intro p9 h9; kst_mem)) (fun _ _ _ h => nomatch h) ⟨rfl, ktn_int (Eq.symm ?_)⟩)
  exact cmp_is_eq hg1 hg2 (by omega) (cmp_all (by assumption))
end
/- part add -/
section
/-- behind the turning round: the longer first -/
noncomputable def AddMid (h₀ : Heap) (L : Addr) (m : Str → Option Value) (wd sm : Int) (news : List (Addr × Obj)) (s : Shared) (f : Flow) (s' : Shared) : Prop :=
  f = .next ∧ ∃ (a1 : Addr) (us1 : List Value) (n1 : Nat) (xs : List Int) (a2 : Addr) (us2 : List Value) (n2 : Nat) (ys : List Int) (p q : Int) (h' : Heap) (tk : Nat), s' = { s with heap := h', toks := tk } ∧
    Fr h₀ L h' (fun y => if y = Str.ofString "a" then some (.ref a1) else if y = Str.ofString "b" then some (.ref a2) else m y) ∧ News h₀ L h' ((a1, listOf us1.toArray n1) :: (a2, listOf us2.toArray n2) :: news) ∧
    IntsAre us1 xs ∧ IntsAre us2 ys ∧ Dg (2 ^ wd.toNat) xs p ∧ Dg (2 ^ wd.toNat) ys q ∧ p + q = sm ∧ p < 500 ∧ q < 500 ∧ ys.length ≤ xs.length
theorem add_cut {M : Model} {A : Around} {t : Sem Flow} {h₀ : Heap} {L : Addr} {m : Str → Option Value} {wd sm : Int} {news : List (Addr × Obj)} {Q : Flow → Shared → Prop} {E : Value → Shared → Prop} {s : Shared} (hF : Fr h₀ L s.heap m) (hN : News h₀ L s.heap news)
    (walk : Fr h₀ L s.heap m → News h₀ L s.heap news → wpAny M A t (AddMid h₀ L m wd sm news s) E s)
    (cont : ∀ a1 us1 n1 xs a2 us2 n2 ys p q h' tk, Fr h₀ L h' (fun y => if y = Str.ofString "a" then some (.ref a1) else if y = Str.ofString "b" then some (.ref a2) else m y) → News h₀ L h' ((a1, listOf us1.toArray n1) :: (a2, listOf us2.toArray n2) :: news) →
      IntsAre us1 xs → IntsAre us2 ys → Dg (2 ^ wd.toNat) xs p → Dg (2 ^ wd.toNat) ys q → p + q = sm → p < 500 → q < 500 → ys.length ≤ xs.length → Q .next { s with heap := h', toks := tk }) : wpAny M A t Q E s :=
  wpAny_mono (walk hF hN) (by
    rintro f s' ⟨e0, a1, us1, n1, xs, a2, us2, n2, ys, p, q, h', tk, e1, h1, h2, h3, h4, h5, h6, h7, h8, h9, h10⟩
    rw [e0, e1]
    exact cont a1 us1 n1 xs a2 us2 n2 ys p q h' tk h1 h2 h3 h4 h5 h6 h7 h8 h9 h10) fun _ _ e => e
theorem fr_map {h₀ h : Heap} {L : Addr} {m m' : Str → Option Value} (F : Fr h₀ L h m) (e : ∀ y, m y = m' y) : Fr h₀ L h m' := funext e ▸ F
theorem add_ok : Keeps 60 addC := by
  w_top off
  unfold Keeps
  k_fill
  intro w mean mg mb d dp un gd cn cs a ccd cl outer A₀ base h₀ L m news s vs Q E B F X N T hk hR hok hd hu hret
  obtain ⟨_, _, tw, rfl, ⟨a1, us1, n1, xs, rfl, hm1, hi1, hg1⟩, ⟨a2, us2, n2, ys, rfl, hm2, hi2, hg2⟩⟩ := hR
  obtain ⟨wd, dm, dn⟩ := d
  dsimp only [addC] at hok hd hu hret hi1 hi2 hg1 hg2 ⊢
  obtain ⟨hw1, hw2, hx1, hx2⟩ := hok
  have hB := base_ge hw1
  have hl1 := hg1.len_bound (by omega)
  have hl2 := hg2.len_bound (by omega)
  have hL1 := hg1.1
  have hL2 := hg2.1
  refine wpAny_call ?_
  k_dflt ktr_enter
  have kMark := kstMark
  rename_i N' _ _ _
  have N2 := news_at (news_at N' hm1) (List.mem_cons_of_mem _ hm2)
  clear N'
  k_with_none
  k_with "state" => (refine And.intro (by kst_p1) (by first | exact add_start _ _ _ | exact add_turn (by assumption) (by assumption) (by assumption) (by assumption) | exact add_cont (by assumption) | exact add_turn2 (by assumption) (by assumption) (by assumption) (by assumption)))
  walk1
  (rename Fr _ _ _ _ => F9)
  (rename News _ _ _ _ => N9)
  refine add_cut (wd := wd) (sm := dm + dn) F9 N9 ?walk ?cont
  case walk =>
    clear F9 N9
    intro F9 N9
    (repeat' (first | (k_unfold; (try dsimp only)) | (k_end; wrow_close) | ((((fail_if_success (with_reducible show wpAny _ _ (PySem.exec (Stmt.While _ _ _ _) _) _ _ _)); (fail_if_success (with_reducible show wpAny _ _ (PySem.exec (Stmt.For _ _ _ _ _) _) _ _ _)); (fail_if_success (with_reducible show wpAny _ _ (pyIter (Value.ref _)) (fun it s₂ => LoopAtV _ _ _ _ _ _ _ _ _ it s₂) _ _)); (fail_if_success (with_reducible show wpAny _ _ (pyIter (Value.ref _)) (fun it s₂ => PairAt3 _ _ _ _ _ _ _ _ _ _ it s₂) _ _)))); first | walk1 | (dsimp only; walk1)) | (leave1; walk_say "STEP leave1"; try dsimp only) | fail "no step"))
    · (rename Fr _ _ _ _ => fE'; rename News _ _ _ _ => nE')
      exact ⟨rfl, a2, us2, n2, ys, a1, us1, n1, xs, dn, dm, _, _, rfl, fr_map fE' (fun y => by
        by_cases h1 : y = Str.ofString "a"
        · subst h1; with_unfolding_all rfl
        · by_cases h2 : y = Str.ofString "b"
          · subst h2; with_unfolding_all rfl
          · simp only [if_neg h1, if_neg h2]), news_at (news_at (news_sub nE' (by intro p9 h9; kst_mem)) (by k_memK)) (by k_memK), hi2, hi1, hg2, hg1, Int.add_comm _ _, hx2, hx1, by omega⟩
    · (rename Fr _ _ _ _ => fE'; rename News _ _ _ _ => nE')
      exact ⟨rfl, a1, us1, n1, xs, a2, us2, n2, ys, dm, dn, _, _, rfl, fr_map fE' (fun y => by
        by_cases h1 : y = Str.ofString "a"
        · subst h1; with_unfolding_all rfl
        · by_cases h2 : y = Str.ofString "b"
          · subst h2; with_unfolding_all rfl
          · simp only [if_neg h1, if_neg h2]), news_at (news_at (news_sub nE' (by intro p9 h9; kst_mem)) (by k_memK)) (by k_memK), hi1, hi2, hg1, hg2, rfl, hx1, hx2, by omega⟩
  case cont =>
    clear hi1 hi2 hg1 hg2 hm1 hm2 hl1 hl2 hL1 hL2 hx1 hx2 N9 F9
    intro a1 us1 n1 xs a2 us2 n2 ys p q hh9 tk9 F9 N9 hi1 hi2 hg1 hg2 hpq hx1 hx2 hle
    have hl1 := hg1.len_bound (by omega)
    have hl2 := hg2.len_bound (by omega)
    have hL1 := hg1.1
    have hL2 := hg2.1
    (try dsimp only)
    (repeat' (first | (k_unfold; (try dsimp only)) | (k_end; wrow_close) | ((((fail_if_success (with_reducible show wpAny _ _ (PySem.exec (Stmt.While _ _ _ _) _) _ _ _)); (fail_if_success (with_reducible show wpAny _ _ (PySem.exec (Stmt.For _ _ _ _ _) _) _ _ _)); (fail_if_success (with_reducible show wpAny _ _ (pyIter (Value.ref _)) (fun it s₂ => LoopAtV _ _ _ _ _ _ _ _ _ it s₂) _ _)); (fail_if_success (with_reducible show wpAny _ _ (pyIter (Value.ref _)) (fun it s₂ => PairAt3 _ _ _ _ _ _ _ _ _ _ it s₂) _ _)))); first | walk1 | (dsimp only; walk1)) | (leave1; walk_say "STEP leave1"; try dsimp only) | fail "no step"))
    walk_at "for"
    (repeat' (first | (k_unfold; (try dsimp only)) | (k_end; wrow_close) | ((((fail_if_success (with_reducible show wpAny _ _ (PySem.exec (Stmt.While _ _ _ _) _) _ _ _)); (fail_if_success (with_reducible show wpAny _ _ (PySem.exec (Stmt.For _ _ _ _ _) _) _ _ _)); (fail_if_success (with_reducible show wpAny _ _ (pyIter (Value.ref _)) (fun it s₂ => LoopAtV _ _ _ _ _ _ _ _ _ it s₂) _ _)); (fail_if_success (with_reducible show wpAny _ _ (pyIter (Value.ref _)) (fun it s₂ => PairAt3 _ _ _ _ _ _ _ _ _ _ it s₂) _ _)))); first | walk1 | (dsimp only; walk1)) | (leave1; walk_say "STEP leave1"; try dsimp only) | fail "no step"))
    k_state_given ["a", "b", "w"] (fun xs ys w pre carry found => found.length = pre.length ∧ AddInv (2 ^ w.toNat) xs ys pre.length carry found) "carry" "found"
    · (repeat' (first | (k_unfold; (try dsimp only)) | (k_end; wrow_close) | ((((fail_if_success (with_reducible show wpAny _ _ (PySem.exec (Stmt.While _ _ _ _) _) _ _ _)); (fail_if_success (with_reducible show wpAny _ _ (PySem.exec (Stmt.For _ _ _ _ _) _) _ _ _)); (fail_if_success (with_reducible show wpAny _ _ (pyIter (Value.ref _)) (fun it s₂ => LoopAtV _ _ _ _ _ _ _ _ _ it s₂) _ _)); (fail_if_success (with_reducible show wpAny _ _ (pyIter (Value.ref _)) (fun it s₂ => PairAt3 _ _ _ _ _ _ _ _ _ _ it s₂) _ _)))); first | walk1 | (dsimp only; walk1)) | (leave1; walk_say "STEP leave1"; try dsimp only) | fail "no step"))
    (repeat' (first | (k_unfold; (try dsimp only)) | (k_end; wrow_close) | ((((fail_if_success (with_reducible show wpAny _ _ (PySem.exec (Stmt.While _ _ _ _) _) _ _ _)); (fail_if_success (with_reducible show wpAny _ _ (PySem.exec (Stmt.For _ _ _ _ _) _) _ _ _)); (fail_if_success (with_reducible show wpAny _ _ (pyIter (Value.ref _)) (fun it s₂ => LoopAtV _ _ _ _ _ _ _ _ _ it s₂) _ _)); (fail_if_success (with_reducible show wpAny _ _ (pyIter (Value.ref _)) (fun it s₂ => PairAt3 _ _ _ _ _ _ _ _ _ _ it s₂) _ _)))); first | walk1 | (dsimp only; walk1)) | (leave1; walk_say "STEP leave1"; try dsimp only) | fail "no step"))
    walk_at "for"
    (repeat' (first | (k_unfold; (try dsimp only)) | (k_end; wrow_close) | ((((fail_if_success (with_reducible show wpAny _ _ (PySem.exec (Stmt.While _ _ _ _) _) _ _ _)); (fail_if_success (with_reducible show wpAny _ _ (PySem.exec (Stmt.For _ _ _ _ _) _) _ _ _)); (fail_if_success (with_reducible show wpAny _ _ (pyIter (Value.ref _)) (fun it s₂ => LoopAtV _ _ _ _ _ _ _ _ _ it s₂) _ _)); (fail_if_success (with_reducible show wpAny _ _ (pyIter (Value.ref _)) (fun it s₂ => PairAt3 _ _ _ _ _ _ _ _ _ _ it s₂) _ _)))); first | walk1 | (dsimp only; walk1)) | (leave1; walk_say "STEP leave1"; try dsimp only) | fail "no step"))
    k_state_given ["a", "b", "w"] (fun xs ys w pre carry found => found.length = ys.length + pre.length ∧ AddInv (2 ^ w.toNat) xs ys (ys.length + pre.length) carry found) "carry" "found"
    · (repeat' (first | (k_unfold; (try dsimp only)) | (k_end; wrow_close) | ((((fail_if_success (with_reducible show wpAny _ _ (PySem.exec (Stmt.While _ _ _ _) _) _ _ _)); (fail_if_success (with_reducible show wpAny _ _ (PySem.exec (Stmt.For _ _ _ _ _) _) _ _ _)); (fail_if_success (with_reducible show wpAny _ _ (pyIter (Value.ref _)) (fun it s₂ => LoopAtV _ _ _ _ _ _ _ _ _ it s₂) _ _)); (fail_if_success (with_reducible show wpAny _ _ (pyIter (Value.ref _)) (fun it s₂ => PairAt3 _ _ _ _ _ _ _ _ _ _ it s₂) _ _)))); first | walk1 | (dsimp only; walk1)) | (leave1; walk_say "STEP leave1"; try dsimp only) | fail "no step"))
    (repeat' (first | (k_unfold; (try dsimp only)) | (k_end; wrow_close) | ((((fail_if_success (with_reducible show wpAny _ _ (PySem.exec (Stmt.While _ _ _ _) _) _ _ _)); (fail_if_success (with_reducible show wpAny _ _ (PySem.exec (Stmt.For _ _ _ _ _) _) _ _ _)); (fail_if_success (with_reducible show wpAny _ _ (pyIter (Value.ref _)) (fun it s₂ => LoopAtV _ _ _ _ _ _ _ _ _ it s₂) _ _)); (fail_if_success (with_reducible show wpAny _ _ (pyIter (Value.ref _)) (fun it s₂ => PairAt3 _ _ _ _ _ _ _ _ _ _ it s₂) _ _)))); first | walk1 | (dsimp only; walk1)) | (leave1; walk_say "STEP leave1"; try dsimp only) | fail "no step"))
    all_goals (
      (rename News _ _ _ _ => kN9)
      (try simp only [List.push_toArray] at kN9)
      (refine' hret _ [(_, listOf (List.toArray _) _)] _ _ (by assumption) (made_one kN9 ?hin ?hsub) (ord_one ?hlt) ⟨_, _, _, _, rfl, rfl, ?hi, ?hd⟩)
      case hin => k_memK
      case hsub => (intro p9 h9; kst_mem)
      case hlt => (first | assumption | exact allLt_of (by assumption) | exact lt_app (by assumption) | exact And.right (by assumption) | exact lt_app (And.right (by assumption)) | exact And.right (And.right (by assumption)) | exact lt_app (And.right (And.right (by assumption))) | exact And.right (And.right (And.right (by assumption))) | exact lt_app (And.right (And.right (And.right (by assumption)))) | exact And.right (And.right (And.right (And.right (by assumption)))) | exact lt_app (And.right (And.right (And.right (And.right (by assumption))))) | exact And.right (And.right (And.right (And.right (And.right (by assumption))))) | exact lt_app (And.right (And.right (And.right (And.right (And.right (by assumption)))))) | exact And.right (And.right (And.right (And.right (And.right (And.right (by assumption)))))) | exact lt_app (And.right (And.right (And.right (And.right (And.right (And.right (by assumption))))))) | exact And.right (And.right (And.right (And.right (And.right (And.right (And.right (by assumption))))))) | exact lt_app (And.right (And.right (And.right (And.right (And.right (And.right (And.right (by assumption)))))))) | exact And.right (And.right (And.right (And.right (And.right (And.right (And.right (And.right (by assumption)))))))) | exact lt_app (And.right (And.right (And.right (And.right (And.right (And.right (And.right (And.right (by assumption))))))))) | exact And.right (And.right (And.right (And.right (And.right (And.right (And.right (And.right (And.right (by assumption))))))))) | exact lt_app (And.right (And.right (And.right (And.right (And.right (And.right (And.right (And.right (And.right (by assumption)))))))))) | exact And.right (And.right (And.right (And.right (And.right (And.right (And.right (And.right (And.right (And.right (by assumption)))))))))) | exact lt_app (And.right (And.right (And.right (And.right (And.right (And.right (And.right (And.right (And.right (And.right (by assumption))))))))))) | exact And.right (And.right (And.right (And.right (And.right (And.right (And.right (And.right (And.right (And.right (And.right (by assumption))))))))))) | exact lt_app (And.right (And.right (And.right (And.right (And.right (And.right (And.right (And.right (And.right (And.right (And.right (by assumption)))))))))))) | exact And.right (And.right (And.right (And.right (And.right (And.right (And.right (And.right (And.right (And.right (And.right (And.right (by assumption)))))))))))) | exact lt_app (And.right (And.right (And.right (And.right (And.right (And.right (And.right (And.right (And.right (And.right (And.right (And.right (by assumption))))))))))))) | exact And.right (And.right (And.right (And.right (And.right (And.right (And.right (And.right (And.right (And.right (And.right (And.right (And.right (by assumption))))))))))))) | exact lt_app (And.right (And.right (And.right (And.right (And.right (And.right (And.right (And.right (And.right (And.right (And.right (And.right (And.right (by assumption)))))))))))))) | exact And.right (And.right (And.right (And.right (And.right (And.right (And.right (And.right (And.right (And.right (And.right (And.right (And.right (And.right (by assumption)))))))))))))) | exact lt_app (And.right (And.right (And.right (And.right (And.right (And.right (And.right (And.right (And.right (And.right (And.right (And.right (And.right (And.right (by assumption))))))))))))))) | exact And.right (And.right (And.right (And.right (And.right (And.right (And.right (And.right (And.right (And.right (And.right (And.right (And.right (And.right (And.right (by assumption))))))))))))))) | exact lt_app (And.right (And.right (And.right (And.right (And.right (And.right (And.right (And.right (And.right (And.right (And.right (And.right (And.right (And.right (And.right (by assumption)))))))))))))))) | exact And.right (And.right (And.right (And.right (And.right (And.right (And.right (And.right (And.right (And.right (And.right (And.right (And.right (And.right (And.right (And.right (by assumption)))))))))))))))) | exact lt_app (And.right (And.right (And.right (And.right (And.right (And.right (And.right (And.right (And.right (And.right (And.right (And.right (And.right (And.right (And.right (And.right (by assumption))))))))))))))))))
      case hi => kst_facts
      case hd => (rw [← hpq]; first
        | exact (add_done (by omega) hg1 hg2 (by omega) (add_at (by omega) (by assumption))).1 (by assumption)
        | exact (add_done (by omega) hg1 hg2 (by omega) (add_at (by omega) (by assumption))).2 (by assumption)))
end
/- part shl -/
section
theorem one_fdiv {w : Int} (h : 3 ≤ w) : Int.fdiv 1 w = 0 := by
  rw [Int.fdiv_eq_ediv_of_nonneg _ (by omega)]
  exact Int.ediv_eq_zero_of_lt (by decide) (by omega)
theorem one_fmod {w : Int} (h : 3 ≤ w) : Int.fmod 1 w = 1 := by
  rw [Int.fmod_eq_emod_of_nonneg _ (by omega)]
  exact Int.emod_eq_of_lt (by decide) (by omega)
theorem shl_nil {B m : Int} {xs : List Int} (h : Dg B xs m) (hl : (xs.length : Int) = 0) : Dg B [] (2 * m) := by
  have e : xs = [] := List.eq_nil_of_length_eq_zero (by omega)
  subst e
  have : m = 0 := h.2.1.symm
  subst this
  exact Dg.nil B
theorem shl_turn {w c q n : Int} {xs f pre post : List Int} (hq : q = 1) (h : ShlInv (2 ^ w.toNat) xs pre.length c f) (e : xs = pre ++ n :: post) (hx : Limbs (2 ^ w.toNat) xs) :
    ShlInv (2 ^ w.toNat) xs (pre ++ [n]).length ((Builtin.bitOr c (n * 2 ^ q.toNat)).fdiv (2 ^ w.toNat)) (f ++ [Builtin.bitAnd (Builtin.bitOr c (n * 2 ^ q.toNat)) (1 * 2 ^ w.toNat - 1)]) := by
  subst hq
  have e2 : xs.getD pre.length 0 = n := by rw [e]; simp [List.getD_eq_getElem?_getD]
  have b := limbs_getD (base_pos w.toNat) hx pre.length
  have e3 : (1 : Int).toNat = 1 := rfl
  rw [e2] at b
  rw [mask_is, e3, or_even h.2.2.1 h.2.2.2.1 b.1]
  have := shl_step (base_pos w.toNat) hx h
  rw [e2] at this
  simpa using this
theorem shl_start0 {B : Int} {xs f : List Int} (h : f = []) : f.length = ([] : List Int).length ∧ ShlInv B xs ([] : List Int).length 0 f := by
  subst h; exact ⟨rfl, shl_start B xs⟩
theorem shl_limb {w n : Int} {xs pre post : List Int} (hw : w ≤ 8) (hx : Limbs (2 ^ w.toNat) xs) (e : xs = pre ++ n :: post) : 0 ≤ n ∧ n < 256 := by
  have b := hx n (by rw [e]; simp)
  have := base_le hw
  omega
theorem shl_ok : Keeps 74 shlC := by
  w_top off
  unfold Keeps
  k_fill
  intro w mean mg mb d dp un gd cn cs a ccd cl outer A₀ base h₀ L m news s vs Q E B F X N T hk hR hok hd hu hret
  obtain ⟨wd, dm⟩ := d
  obtain ⟨_, tn, tw, rfl, ⟨a1, us1, n1, xs, rfl, hm1, hi1, hg1⟩⟩ := hR
  dsimp only [shlC] at hok hd hu hret hi1 hg1 ⊢
  obtain ⟨hw1, hw2, hx1⟩ := hok
  have hB := base_ge hw1
  have hl1 := hg1.len_bound (by omega)
  have hL1 := hg1.1
  refine wpAny_call ?_
  k_dflt ktr_enter
  have kMark := kstMark
  rename_i N' _ _ _
  have N2 := news_at N' hm1
  clear N'
  k_with_none
  have hq : Int.fdiv 1 wd = 0 := one_fdiv hw1
  have hr : Int.fmod 1 wd = 1 := one_fmod hw1
  k_with "state" => first | exact shl_start0 (by rw [hq]; rfl) | exact ⟨by kst_p1, shl_turn hr (by assumption) (by assumption) hL1⟩
  (repeat' (first | (k_unfold; (try dsimp only)) | (k_end; wrow_close) | ((((fail_if_success (with_reducible show wpAny _ _ (PySem.exec (Stmt.While _ _ _ _) _) _ _ _)); (fail_if_success (with_reducible show wpAny _ _ (PySem.exec (Stmt.For _ _ _ _ _) _) _ _ _)); (fail_if_success (with_reducible show wpAny _ _ (pyIter (Value.ref _)) (fun it s₂ => LoopAtV _ _ _ _ _ _ _ _ _ it s₂) _ _)); (fail_if_success (with_reducible show wpAny _ _ (pyIter (Value.ref _)) (fun it s₂ => PairAt3 _ _ _ _ _ _ _ _ _ _ it s₂) _ _)))); first | walk1 | (dsimp only; walk1)) | (leave1; walk_say "STEP leave1"; try dsimp only) | fail "no step"))
  · (
    (rename News _ _ _ _ => kN9)
    (try simp only [List.push_toArray] at kN9)
    (refine' hret _ [(_, listOf (List.toArray _) _)] _ _ (by assumption) (made_one kN9 ?hin ?hsub) (ord_one ?hlt) ⟨_, _, _, _, rfl, rfl, ?hi, ?hd⟩)
    case hin => k_memK
    case hsub => (intro p9 h9; kst_mem)
    case hlt => (first | assumption | exact allLt_of (by assumption) | exact lt_app (by assumption) | exact And.right (by assumption) | exact lt_app (And.right (by assumption)) | exact And.right (And.right (by assumption)) | exact lt_app (And.right (And.right (by assumption))) | exact And.right (And.right (And.right (by assumption))) | exact lt_app (And.right (And.right (And.right (by assumption)))) | exact And.right (And.right (And.right (And.right (by assumption)))) | exact lt_app (And.right (And.right (And.right (And.right (by assumption))))) | exact And.right (And.right (And.right (And.right (And.right (by assumption))))) | exact lt_app (And.right (And.right (And.right (And.right (And.right (by assumption)))))) | exact And.right (And.right (And.right (And.right (And.right (And.right (by assumption)))))) | exact lt_app (And.right (And.right (And.right (And.right (And.right (And.right (by assumption))))))) | exact And.right (And.right (And.right (And.right (And.right (And.right (And.right (by assumption))))))) | exact lt_app (And.right (And.right (And.right (And.right (And.right (And.right (And.right (by assumption)))))))) | exact And.right (And.right (And.right (And.right (And.right (And.right (And.right (And.right (by assumption)))))))) | exact lt_app (And.right (And.right (And.right (And.right (And.right (And.right (And.right (And.right (by assumption))))))))) | exact And.right (And.right (And.right (And.right (And.right (And.right (And.right (And.right (And.right (by assumption))))))))) | exact lt_app (And.right (And.right (And.right (And.right (And.right (And.right (And.right (And.right (And.right (by assumption)))))))))) | exact And.right (And.right (And.right (And.right (And.right (And.right (And.right (And.right (And.right (And.right (by assumption)))))))))) | exact lt_app (And.right (And.right (And.right (And.right (And.right (And.right (And.right (And.right (And.right (And.right (by assumption))))))))))) | exact And.right (And.right (And.right (And.right (And.right (And.right (And.right (And.right (And.right (And.right (And.right (by assumption))))))))))) | exact lt_app (And.right (And.right (And.right (And.right (And.right (And.right (And.right (And.right (And.right (And.right (And.right (by assumption)))))))))))) | exact And.right (And.right (And.right (And.right (And.right (And.right (And.right (And.right (And.right (And.right (And.right (And.right (by assumption)))))))))))) | exact lt_app (And.right (And.right (And.right (And.right (And.right (And.right (And.right (And.right (And.right (And.right (And.right (And.right (by assumption))))))))))))) | exact And.right (And.right (And.right (And.right (And.right (And.right (And.right (And.right (And.right (And.right (And.right (And.right (And.right (by assumption))))))))))))) | exact lt_app (And.right (And.right (And.right (And.right (And.right (And.right (And.right (And.right (And.right (And.right (And.right (And.right (And.right (by assumption)))))))))))))) | exact And.right (And.right (And.right (And.right (And.right (And.right (And.right (And.right (And.right (And.right (And.right (And.right (And.right (And.right (by assumption)))))))))))))) | exact lt_app (And.right (And.right (And.right (And.right (And.right (And.right (And.right (And.right (And.right (And.right (And.right (And.right (And.right (And.right (by assumption))))))))))))))) | exact And.right (And.right (And.right (And.right (And.right (And.right (And.right (And.right (And.right (And.right (And.right (And.right (And.right (And.right (And.right (by assumption))))))))))))))) | exact lt_app (And.right (And.right (And.right (And.right (And.right (And.right (And.right (And.right (And.right (And.right (And.right (And.right (And.right (And.right (And.right (by assumption)))))))))))))))) | exact And.right (And.right (And.right (And.right (And.right (And.right (And.right (And.right (And.right (And.right (And.right (And.right (And.right (And.right (And.right (And.right (by assumption)))))))))))))))) | exact lt_app (And.right (And.right (And.right (And.right (And.right (And.right (And.right (And.right (And.right (And.right (And.right (And.right (And.right (And.right (And.right (And.right (by assumption))))))))))))))))))
    case hi => first | exact .nil | assumption | kst_facts
    case hd => exact shl_nil hg1 (by omega))
  walk_at "for"
  (repeat' (first | (k_unfold; (try dsimp only)) | (k_end; wrow_close) | ((((fail_if_success (with_reducible show wpAny _ _ (PySem.exec (Stmt.While _ _ _ _) _) _ _ _)); (fail_if_success (with_reducible show wpAny _ _ (PySem.exec (Stmt.For _ _ _ _ _) _) _ _ _)); (fail_if_success (with_reducible show wpAny _ _ (pyIter (Value.ref _)) (fun it s₂ => LoopAtV _ _ _ _ _ _ _ _ _ it s₂) _ _)); (fail_if_success (with_reducible show wpAny _ _ (pyIter (Value.ref _)) (fun it s₂ => PairAt3 _ _ _ _ _ _ _ _ _ _ it s₂) _ _)))); first | walk1 | (dsimp only; walk1)) | (leave1; walk_say "STEP leave1"; try dsimp only) | fail "no step"))
  k_state (fun pre carry found => found.length = pre.length ∧ ShlInv (2 ^ wd.toNat) xs pre.length carry found) "carry" "found"
  · have hb := shl_limb hw2 hL1 kEq
    (repeat' (first | (k_unfold; (try dsimp only)) | (k_end; wrow_close) | ((((fail_if_success (with_reducible show wpAny _ _ (PySem.exec (Stmt.While _ _ _ _) _) _ _ _)); (fail_if_success (with_reducible show wpAny _ _ (PySem.exec (Stmt.For _ _ _ _ _) _) _ _ _)); (fail_if_success (with_reducible show wpAny _ _ (pyIter (Value.ref _)) (fun it s₂ => LoopAtV _ _ _ _ _ _ _ _ _ it s₂) _ _)); (fail_if_success (with_reducible show wpAny _ _ (pyIter (Value.ref _)) (fun it s₂ => PairAt3 _ _ _ _ _ _ _ _ _ _ it s₂) _ _)))); first | walk1 | (dsimp only; walk1)) | (leave1; walk_say "STEP leave1"; try dsimp only) | fail "no step"))
  (repeat' (first | (k_unfold; (try dsimp only)) | (k_end; wrow_close) | ((((fail_if_success (with_reducible show wpAny _ _ (PySem.exec (Stmt.While _ _ _ _) _) _ _ _)); (fail_if_success (with_reducible show wpAny _ _ (PySem.exec (Stmt.For _ _ _ _ _) _) _ _ _)); (fail_if_success (with_reducible show wpAny _ _ (pyIter (Value.ref _)) (fun it s₂ => LoopAtV _ _ _ _ _ _ _ _ _ it s₂) _ _)); (fail_if_success (with_reducible show wpAny _ _ (pyIter (Value.ref _)) (fun it s₂ => PairAt3 _ _ _ _ _ _ _ _ _ _ it s₂) _ _)))); first | walk1 | (dsimp only; walk1)) | (leave1; walk_say "STEP leave1"; try dsimp only) | fail "no step"))
  · (
    (rename News _ _ _ _ => kN9)
    (try simp only [List.push_toArray] at kN9)
    (refine' hret _ [(_, listOf (List.toArray _) _)] _ _ (by assumption) (made_one kN9 ?hin ?hsub) (ord_one ?hlt) ⟨_, _, _, _, rfl, rfl, ?hi, ?hd⟩)
    case hin => k_memK
    case hsub => (intro p9 h9; kst_mem)
    case hlt => (first | assumption | exact allLt_of (by assumption) | exact lt_app (by assumption) | exact And.right (by assumption) | exact lt_app (And.right (by assumption)) | exact And.right (And.right (by assumption)) | exact lt_app (And.right (And.right (by assumption))) | exact And.right (And.right (And.right (by assumption))) | exact lt_app (And.right (And.right (And.right (by assumption)))) | exact And.right (And.right (And.right (And.right (by assumption)))) | exact lt_app (And.right (And.right (And.right (And.right (by assumption))))) | exact And.right (And.right (And.right (And.right (And.right (by assumption))))) | exact lt_app (And.right (And.right (And.right (And.right (And.right (by assumption)))))) | exact And.right (And.right (And.right (And.right (And.right (And.right (by assumption)))))) | exact lt_app (And.right (And.right (And.right (And.right (And.right (And.right (by assumption))))))) | exact And.right (And.right (And.right (And.right (And.right (And.right (And.right (by assumption))))))) | exact lt_app (And.right (And.right (And.right (And.right (And.right (And.right (And.right (by assumption)))))))) | exact And.right (And.right (And.right (And.right (And.right (And.right (And.right (And.right (by assumption)))))))) | exact lt_app (And.right (And.right (And.right (And.right (And.right (And.right (And.right (And.right (by assumption))))))))) | exact And.right (And.right (And.right (And.right (And.right (And.right (And.right (And.right (And.right (by assumption))))))))) | exact lt_app (And.right (And.right (And.right (And.right (And.right (And.right (And.right (And.right (And.right (by assumption)))))))))) | exact And.right (And.right (And.right (And.right (And.right (And.right (And.right (And.right (And.right (And.right (by assumption)))))))))) | exact lt_app (And.right (And.right (And.right (And.right (And.right (And.right (And.right (And.right (And.right (And.right (by assumption))))))))))) | exact And.right (And.right (And.right (And.right (And.right (And.right (And.right (And.right (And.right (And.right (And.right (by assumption))))))))))) | exact lt_app (And.right (And.right (And.right (And.right (And.right (And.right (And.right (And.right (And.right (And.right (And.right (by assumption)))))))))))) | exact And.right (And.right (And.right (And.right (And.right (And.right (And.right (And.right (And.right (And.right (And.right (And.right (by assumption)))))))))))) | exact lt_app (And.right (And.right (And.right (And.right (And.right (And.right (And.right (And.right (And.right (And.right (And.right (And.right (by assumption))))))))))))) | exact And.right (And.right (And.right (And.right (And.right (And.right (And.right (And.right (And.right (And.right (And.right (And.right (And.right (by assumption))))))))))))) | exact lt_app (And.right (And.right (And.right (And.right (And.right (And.right (And.right (And.right (And.right (And.right (And.right (And.right (And.right (by assumption)))))))))))))) | exact And.right (And.right (And.right (And.right (And.right (And.right (And.right (And.right (And.right (And.right (And.right (And.right (And.right (And.right (by assumption)))))))))))))) | exact lt_app (And.right (And.right (And.right (And.right (And.right (And.right (And.right (And.right (And.right (And.right (And.right (And.right (And.right (And.right (by assumption))))))))))))))) | exact And.right (And.right (And.right (And.right (And.right (And.right (And.right (And.right (And.right (And.right (And.right (And.right (And.right (And.right (And.right (by assumption))))))))))))))) | exact lt_app (And.right (And.right (And.right (And.right (And.right (And.right (And.right (And.right (And.right (And.right (And.right (And.right (And.right (And.right (And.right (by assumption)))))))))))))))) | exact And.right (And.right (And.right (And.right (And.right (And.right (And.right (And.right (And.right (And.right (And.right (And.right (And.right (And.right (And.right (And.right (by assumption)))))))))))))))) | exact lt_app (And.right (And.right (And.right (And.right (And.right (And.right (And.right (And.right (And.right (And.right (And.right (And.right (And.right (And.right (And.right (And.right (by assumption))))))))))))))))))
    case hi => first | exact .nil | assumption | kst_facts
    case hd => exact (shl_done (by omega) hg1 (by assumption)).1 (by assumption))
  · (
    (rename News _ _ _ _ => kN9)
    (try simp only [List.push_toArray] at kN9)
    (refine' hret _ [(_, listOf (List.toArray _) _)] _ _ (by assumption) (made_one kN9 ?hin ?hsub) (ord_one ?hlt) ⟨_, _, _, _, rfl, rfl, ?hi, ?hd⟩)
    case hin => k_memK
    case hsub => (intro p9 h9; kst_mem)
    case hlt => (first | assumption | exact allLt_of (by assumption) | exact lt_app (by assumption) | exact And.right (by assumption) | exact lt_app (And.right (by assumption)) | exact And.right (And.right (by assumption)) | exact lt_app (And.right (And.right (by assumption))) | exact And.right (And.right (And.right (by assumption))) | exact lt_app (And.right (And.right (And.right (by assumption)))) | exact And.right (And.right (And.right (And.right (by assumption)))) | exact lt_app (And.right (And.right (And.right (And.right (by assumption))))) | exact And.right (And.right (And.right (And.right (And.right (by assumption))))) | exact lt_app (And.right (And.right (And.right (And.right (And.right (by assumption)))))) | exact And.right (And.right (And.right (And.right (And.right (And.right (by assumption)))))) | exact lt_app (And.right (And.right (And.right (And.right (And.right (And.right (by assumption))))))) | exact And.right (And.right (And.right (And.right (And.right (And.right (And.right (by assumption))))))) | exact lt_app (And.right (And.right (And.right (And.right (And.right (And.right (And.right (by assumption)))))))) | exact And.right (And.right (And.right (And.right (And.right (And.right (And.right (And.right (by assumption)))))))) | exact lt_app (And.right (And.right (And.right (And.right (And.right (And.right (And.right (And.right (by assumption))))))))) | exact And.right (And.right (And.right (And.right (And.right (And.right (And.right (And.right (And.right (by assumption))))))))) | exact lt_app (And.right (And.right (And.right (And.right (And.right (And.right (And.right (And.right (And.right (by assumption)))))))))) | exact And.right (And.right (And.right (And.right (And.right (And.right (And.right (And.right (And.right (And.right (by assumption)))))))))) | exact lt_app (And.right (And.right (And.right (And.right (And.right (And.right (And.right (And.right (And.right (And.right (by assumption))))))))))) | exact And.right (And.right (And.right (And.right (And.right (And.right (And.right (And.right (And.right (And.right (And.right (by assumption))))))))))) | exact lt_app (And.right (And.right (And.right (And.right (And.right (And.right (And.right (And.right (And.right (And.right (And.right (by assumption)))))))))))) | exact And.right (And.right (And.right (And.right (And.right (And.right (And.right (And.right (And.right (And.right (And.right (And.right (by assumption)))))))))))) | exact lt_app (And.right (And.right (And.right (And.right (And.right (And.right (And.right (And.right (And.right (And.right (And.right (And.right (by assumption))))))))))))) | exact And.right (And.right (And.right (And.right (And.right (And.right (And.right (And.right (And.right (And.right (And.right (And.right (And.right (by assumption))))))))))))) | exact lt_app (And.right (And.right (And.right (And.right (And.right (And.right (And.right (And.right (And.right (And.right (And.right (And.right (And.right (by assumption)))))))))))))) | exact And.right (And.right (And.right (And.right (And.right (And.right (And.right (And.right (And.right (And.right (And.right (And.right (And.right (And.right (by assumption)))))))))))))) | exact lt_app (And.right (And.right (And.right (And.right (And.right (And.right (And.right (And.right (And.right (And.right (And.right (And.right (And.right (And.right (by assumption))))))))))))))) | exact And.right (And.right (And.right (And.right (And.right (And.right (And.right (And.right (And.right (And.right (And.right (And.right (And.right (And.right (And.right (by assumption))))))))))))))) | exact lt_app (And.right (And.right (And.right (And.right (And.right (And.right (And.right (And.right (And.right (And.right (And.right (And.right (And.right (And.right (And.right (by assumption)))))))))))))))) | exact And.right (And.right (And.right (And.right (And.right (And.right (And.right (And.right (And.right (And.right (And.right (And.right (And.right (And.right (And.right (And.right (by assumption)))))))))))))))) | exact lt_app (And.right (And.right (And.right (And.right (And.right (And.right (And.right (And.right (And.right (And.right (And.right (And.right (And.right (And.right (And.right (And.right (by assumption))))))))))))))))))
    case hi => first | exact .nil | assumption | kst_facts
    case hd => exact (shl_done (by omega) hg1 (by assumption)).2 (by assumption))
end
/- part limbs -/
section
theorem lim_len {B n0 k : Int} {f : List Int} (hB : 2 ≤ B) (h : LimInv B n0 k f) (hn : 0 ≤ n0) : (f.length : Int) ≤ n0 + 1 := by
  cases e : f.length with
  | zero => omega
  | succ j =>
    have h1 := h.2.2.2 j e
    have h2 := pow_gt hB j
    omega
theorem lim_turn {w n0 k : Int} {f : List Int} (hw : 3 ≤ w) (h0 : 0 ≤ n0) (h1 : n0 < 500) (h : LimInv (2 ^ w.toNat) n0 k f) (hk : 0 < k) :
    0 ≤ k.fdiv (2 ^ w.toNat) ∧ (f ++ [k.fmod (2 ^ w.toNat)]).length ≤ 600 ∧ LimInv (2 ^ w.toNat) n0 (k.fdiv (2 ^ w.toNat)) (f ++ [k.fmod (2 ^ w.toNat)]) := by
  have hB := base_ge hw
  have := lim_step (base_pos w.toNat) h hk
  have := lim_len (by omega) this h0
  exact ⟨fdiv_nonneg' (base_pos _) (by omega), by omega, by assumption⟩
theorem ints_snoc {x : Int} {t : Tok} : ∀ {us : List Value} {xs : List Int}, IntsAre us xs → IntsAre (us ++ [.int x t]) (xs ++ [x])
  | _, _, .nil => .cons x t .nil
  | _, _, .cons n u h => .cons n u (ints_snoc h)
local macro_rules | `(tactic| kst_facts) => `(tactic| ((try dsimp only); first | exact IntsAre.nil | exact ints_snoc (by assumption)))
theorem limbs_ok : Keeps 123 limbsC := by
  w_top off
  unfold Keeps
  k_fill
  intro w mean mg mb d dp un gd cn cs a ccd cl outer A₀ base h₀ L m news s vs Q E B F X N T hk hR hok hd hu hret
  obtain ⟨wd, dm⟩ := d
  obtain ⟨tn, tw, rfl⟩ := hR
  dsimp only [limbsC] at hok hd hu hret ⊢
  obtain ⟨hw1, hw2, hx0, hx1⟩ := hok
  have hB := base_ge hw1
  refine wpAny_call ?_
  k_dflt ktr_enter
  have kMark := kstMark
  rename_i N' _ _ _
  k_with_none
  k_with "state" => first | exact ⟨by omega, Nat.zero_le _, lim_start (by omega)⟩ | exact lim_turn hw1 hx0 hx1 (by assumption) (by assumption)
  k_with "measure" => first | exact lim_less (by omega) (by assumption)
  (repeat' (first | (k_unfold; (try dsimp only)) | (k_end; wrow_close) | ((((fail_if_success (with_reducible show wpAny _ _ (PySem.exec (Stmt.While _ _ _ _) _) _ _ _)); (fail_if_success (with_reducible show wpAny _ _ (PySem.exec (Stmt.For _ _ _ _ _) _) _ _ _)); (fail_if_success (with_reducible show wpAny _ _ (pyIter (Value.ref _)) (fun it s₂ => LoopAtV _ _ _ _ _ _ _ _ _ it s₂) _ _)); (fail_if_success (with_reducible show wpAny _ _ (pyIter (Value.ref _)) (fun it s₂ => PairAt3 _ _ _ _ _ _ _ _ _ _ it s₂) _ _)))); first | walk1 | (dsimp only; walk1)) | (leave1; walk_say "STEP leave1"; try dsimp only) | fail "no step"))
  k_while_given ["w"] (fun w _ k f => 0 ≤ k ∧ f.length ≤ 600 ∧ LimInv (2 ^ w.toNat) dm k f) (fun _ _ k _ => k.toNat) "number" "found"
  (repeat' (first | (k_unfold; (try dsimp only)) | (k_end; wrow_close) | ((((fail_if_success (with_reducible show wpAny _ _ (PySem.exec (Stmt.While _ _ _ _) _) _ _ _)); (fail_if_success (with_reducible show wpAny _ _ (PySem.exec (Stmt.For _ _ _ _ _) _) _ _ _)); (fail_if_success (with_reducible show wpAny _ _ (pyIter (Value.ref _)) (fun it s₂ => LoopAtV _ _ _ _ _ _ _ _ _ it s₂) _ _)); (fail_if_success (with_reducible show wpAny _ _ (pyIter (Value.ref _)) (fun it s₂ => PairAt3 _ _ _ _ _ _ _ _ _ _ it s₂) _ _)))); first | walk1 | (dsimp only; walk1)) | (leave1; walk_say "STEP leave1"; try dsimp only) | fail "no step"))
  (
    (rename News _ _ _ _ => kN9)
    (try simp only [List.push_toArray] at kN9)
    (refine' hret _ [(_, listOf (List.toArray _) _)] _ _ (by assumption) (made_one kN9 ?hin ?hsub) (ord_one ?hlt) ⟨_, _, _, _, rfl, rfl, ?hi, ?hd⟩)
    case hin => k_memK
    case hsub => (intro p9 h9; kst_mem)
    case hlt => (first | assumption | exact allLt_of (by assumption) | exact lt_app (by assumption) | exact And.right (by assumption) | exact lt_app (And.right (by assumption)) | exact And.right (And.right (by assumption)) | exact lt_app (And.right (And.right (by assumption))) | exact And.right (And.right (And.right (by assumption))) | exact lt_app (And.right (And.right (And.right (by assumption)))) | exact And.right (And.right (And.right (And.right (by assumption)))) | exact lt_app (And.right (And.right (And.right (And.right (by assumption))))) | exact And.right (And.right (And.right (And.right (And.right (by assumption))))) | exact lt_app (And.right (And.right (And.right (And.right (And.right (by assumption)))))) | exact And.right (And.right (And.right (And.right (And.right (And.right (by assumption)))))) | exact lt_app (And.right (And.right (And.right (And.right (And.right (And.right (by assumption))))))) | exact And.right (And.right (And.right (And.right (And.right (And.right (And.right (by assumption))))))) | exact lt_app (And.right (And.right (And.right (And.right (And.right (And.right (And.right (by assumption)))))))) | exact And.right (And.right (And.right (And.right (And.right (And.right (And.right (And.right (by assumption)))))))) | exact lt_app (And.right (And.right (And.right (And.right (And.right (And.right (And.right (And.right (by assumption))))))))) | exact And.right (And.right (And.right (And.right (And.right (And.right (And.right (And.right (And.right (by assumption))))))))) | exact lt_app (And.right (And.right (And.right (And.right (And.right (And.right (And.right (And.right (And.right (by assumption)))))))))) | exact And.right (And.right (And.right (And.right (And.right (And.right (And.right (And.right (And.right (And.right (by assumption)))))))))) | exact lt_app (And.right (And.right (And.right (And.right (And.right (And.right (And.right (And.right (And.right (And.right (by assumption))))))))))) | exact And.right (And.right (And.right (And.right (And.right (And.right (And.right (And.right (And.right (And.right (And.right (by assumption))))))))))) | exact lt_app (And.right (And.right (And.right (And.right (And.right (And.right (And.right (And.right (And.right (And.right (And.right (by assumption)))))))))))) | exact And.right (And.right (And.right (And.right (And.right (And.right (And.right (And.right (And.right (And.right (And.right (And.right (by assumption)))))))))))) | exact lt_app (And.right (And.right (And.right (And.right (And.right (And.right (And.right (And.right (And.right (And.right (And.right (And.right (by assumption))))))))))))) | exact And.right (And.right (And.right (And.right (And.right (And.right (And.right (And.right (And.right (And.right (And.right (And.right (And.right (by assumption))))))))))))) | exact lt_app (And.right (And.right (And.right (And.right (And.right (And.right (And.right (And.right (And.right (And.right (And.right (And.right (And.right (by assumption)))))))))))))) | exact And.right (And.right (And.right (And.right (And.right (And.right (And.right (And.right (And.right (And.right (And.right (And.right (And.right (And.right (by assumption)))))))))))))) | exact lt_app (And.right (And.right (And.right (And.right (And.right (And.right (And.right (And.right (And.right (And.right (And.right (And.right (And.right (And.right (by assumption))))))))))))))) | exact And.right (And.right (And.right (And.right (And.right (And.right (And.right (And.right (And.right (And.right (And.right (And.right (And.right (And.right (And.right (by assumption))))))))))))))) | exact lt_app (And.right (And.right (And.right (And.right (And.right (And.right (And.right (And.right (And.right (And.right (And.right (And.right (And.right (And.right (And.right (by assumption)))))))))))))))) | exact And.right (And.right (And.right (And.right (And.right (And.right (And.right (And.right (And.right (And.right (And.right (And.right (And.right (And.right (And.right (And.right (by assumption)))))))))))))))) | exact lt_app (And.right (And.right (And.right (And.right (And.right (And.right (And.right (And.right (And.right (And.right (And.right (And.right (And.right (And.right (And.right (And.right (by assumption))))))))))))))))))
    case hi => first | exact .nil | assumption | kst_facts
    case hd => exact lim_done (by assumption) (by assumption))
end
/- part worth -/
section
theorem worth_turn {w m p n : Int} {xs pre post : List Int} (hg : Dg (2 ^ w.toNat) xs m) (h1 : m < 500) (e : xs.reverse = pre ++ n :: post) (hp : p = val (2 ^ w.toNat) pre.reverse) :
    0 ≤ p * 2 ^ w.toNat + n ∧ p * 2 ^ w.toNat + n < 600 ∧ p * 2 ^ w.toNat + n = val (2 ^ w.toNat) (pre ++ [n]).reverse := by
  have ex : xs = post.reverse ++ (n :: pre.reverse) := by
    have := congrArg List.reverse e
    simpa using this
  have ev : p * 2 ^ w.toNat + n = val (2 ^ w.toNat) (n :: pre.reverse) := by rw [val, hp, Int.mul_comm]; omega
  have er : (pre ++ [n]).reverse = n :: pre.reverse := by simp
  have hl : Limbs (2 ^ w.toNat) (n :: pre.reverse) := fun z hz => hg.1 z (by rw [ex]; exact List.mem_append_right _ hz)
  have hl2 : Limbs (2 ^ w.toNat) post.reverse := fun z hz => hg.1 z (by rw [ex]; exact List.mem_append_left _ hz)
  have a := (val_bounds (base_pos w.toNat) hl).1
  have b := (val_bounds (base_pos w.toNat) hl2).1
  have c := hg.2.1
  rw [ex, val_append] at c
  have d := pow_pos' (base_pos w.toNat) post.reverse.length
  have d2 : (2 ^ w.toNat) ^ post.reverse.length * 0 ≤ ((2 : Int) ^ w.toNat) ^ post.reverse.length * val (2 ^ w.toNat) (n :: pre.reverse) := Int.mul_le_mul_of_nonneg_left a (Int.le_of_lt d)
  have d3 : 1 * val (2 ^ w.toNat) (n :: pre.reverse) ≤ ((2 : Int) ^ w.toNat) ^ post.reverse.length * val (2 ^ w.toNat) (n :: pre.reverse) := Int.mul_le_mul_of_nonneg_right (by omega) a
  rw [er, ev]
  exact ⟨a, by omega, rfl⟩
theorem worth_end {B m p : Int} {xs : List Int} (hg : Dg B xs m) (h : p = val B xs.reverse.reverse) : p = m := by
  rw [List.reverse_reverse, hg.2.1] at h; exact h
theorem worth_ok : Keeps 130 worthC := by
  w_top off
  unfold Keeps
  k_fill
  intro w mean mg mb d dp un gd cn cs a ccd cl outer A₀ base h₀ L m news s vs Q E B F X N T hk hR hok hd hu hret
  obtain ⟨wd, dm⟩ := d
  obtain ⟨_, tw, rfl, ⟨a1, us1, n1, xs, rfl, hm1, hi1, hg1⟩⟩ := hR
  dsimp only [worthC] at hok hd hu hret hi1 hg1 ⊢
  obtain ⟨hw1, hw2, hx1⟩ := hok
  have hB := base_ge hw1
  have hl1 := hg1.len_bound (by omega)
  have hL1 := hg1.1
  refine wpAny_call ?_
  k_dflt ktr_enter
  have kMark := kstMark
  rename_i N' _ _ _
  have N2 := news_at N' hm1
  clear N'
  k_with_none
  k_with "state" => first | exact ⟨by decide, by decide, rfl⟩ | exact worth_turn hg1 hx1 (by assumption) (by assumption)
  (repeat' (first | (k_unfold; (try dsimp only)) | (k_end; wrow_close) | ((((fail_if_success (with_reducible show wpAny _ _ (PySem.exec (Stmt.While _ _ _ _) _) _ _ _)); (fail_if_success (with_reducible show wpAny _ _ (PySem.exec (Stmt.For _ _ _ _ _) _) _ _ _)); (fail_if_success (with_reducible show wpAny _ _ (pyIter (Value.ref _)) (fun it s₂ => LoopAtV _ _ _ _ _ _ _ _ _ it s₂) _ _)); (fail_if_success (with_reducible show wpAny _ _ (pyIter (Value.ref _)) (fun it s₂ => PairAt3 _ _ _ _ _ _ _ _ _ _ it s₂) _ _)))); first | walk1 | (dsimp only; walk1)) | (leave1; walk_say "STEP leave1"; try dsimp only) | fail "no step"))
  walk_at "for"
  (repeat' (first | (k_unfold; (try dsimp only)) | (k_end; wrow_close) | ((((fail_if_success (with_reducible show wpAny _ _ (PySem.exec (Stmt.While _ _ _ _) _) _ _ _)); (fail_if_success (with_reducible show wpAny _ _ (PySem.exec (Stmt.For _ _ _ _ _) _) _ _ _)); (fail_if_success (with_reducible show wpAny _ _ (pyIter (Value.ref _)) (fun it s₂ => LoopAtV _ _ _ _ _ _ _ _ _ it s₂) _ _)); (fail_if_success (with_reducible show wpAny _ _ (pyIter (Value.ref _)) (fun it s₂ => PairAt3 _ _ _ _ _ _ _ _ _ _ it s₂) _ _)))); first | walk1 | (dsimp only; walk1)) | (leave1; walk_say "STEP leave1"; try dsimp only) | fail "no step"))
  k_state_given ["w"] (fun w pre worth => 0 ≤ worth ∧ worth < 600 ∧ worth = val (2 ^ w.toNat) pre.reverse) "worth"
  · (repeat' (first | (k_unfold; (try dsimp only)) | (k_end; wrow_close) | ((((fail_if_success (with_reducible show wpAny _ _ (PySem.exec (Stmt.While _ _ _ _) _) _ _ _)); (fail_if_success (with_reducible show wpAny _ _ (PySem.exec (Stmt.For _ _ _ _ _) _) _ _ _)); (fail_if_success (with_reducible show wpAny _ _ (pyIter (Value.ref _)) (fun it s₂ => LoopAtV _ _ _ _ _ _ _ _ _ it s₂) _ _)); (fail_if_success (with_reducible show wpAny _ _ (pyIter (Value.ref _)) (fun it s₂ => PairAt3 _ _ _ _ _ _ _ _ _ _ it s₂) _ _)))); first | walk1 | (dsimp only; walk1)) | (leave1; walk_say "STEP leave1"; try dsimp only) | fail "no step"))
  (repeat' (first | (k_unfold; (try dsimp only)) | (k_end; wrow_close) | ((((fail_if_success (with_reducible show wpAny _ _ (PySem.exec (Stmt.While _ _ _ _) _) _ _ _)); (fail_if_success (with_reducible show wpAny _ _ (PySem.exec (Stmt.For _ _ _ _ _) _) _ _ _)); (fail_if_success (with_reducible show wpAny _ _ (pyIter (Value.ref _)) (fun it s₂ => LoopAtV _ _ _ _ _ _ _ _ _ it s₂) _ _)); (fail_if_success (with_reducible show wpAny _ _ (pyIter (Value.ref _)) (fun it s₂ => PairAt3 _ _ _ _ _ _ _ _ _ _ it s₂) _ _)))); first | walk1 | (dsimp only; walk1)) | (leave1; walk_say "STEP leave1"; try dsimp only) | fail "no step"))
  (rename News _ _ _ _ => kN9; refine hret _ [] _ _ (by assumption) (news_sub kN9 (by intro p9 h9; kst_mem)) (fun _ _ _ h => nomatch h) ⟨rfl, ktn_int (Eq.symm ?_)⟩)
  exact (worth_end hg1 (by assumption)).symm
end
/- part mulp -/
section
theorem val_set (B : Int) : ∀ (f : List Int) (i : Nat) (v : Int), i < f.length → val B (f.set i v) = val B f + B ^ i * (v - f.getD i 0)
  | [], _, _, h => absurd h (Nat.not_lt_zero _)
  | x :: r, 0, v, _ => by
    show v + B * val B r = x + B * val B r + B ^ 0 * (v - x)
    rw [Int.pow_zero]; omega
  | x :: r, i + 1, v, h => by
    show x + B * val B (r.set i v) = x + B * val B r + B ^ (i + 1) * (v - r.getD i 0)
    rw [val_set B r i v (Nat.lt_of_succ_lt_succ h), Int.mul_add, Int.pow_succ, ← Int.mul_assoc, Int.mul_comm B (B ^ i)]
    omega
theorem limbs_set {B v : Int} {f : List Int} (h : Limbs B f) (i : Nat) (h0 : 0 ≤ v) (h1 : v < B) : Limbs B (f.set i v) := fun z hz => by
  rcases List.mem_or_eq_of_mem_set hz with h2 | h2
  · exact h z h2
  · rw [h2]; exact ⟨h0, h1⟩
theorem getD_set_ne {f : List Int} {i j : Nat} {v : Int} (h : i ≠ j) : (f.set i v).getD j 0 = f.getD j 0 := by
  simp [List.getD_eq_getElem?_getD, List.getElem?_set, h]
noncomputable def MulInv (B : Int) (xs ys : List Int) (k : Nat) (f : List Int) : Prop :=
  Limbs B f ∧ val B f = val B (xs.take k) * val B ys ∧ ∀ i, k + ys.length ≤ i → f.getD i 0 = 0
noncomputable def RowInv (B : Int) (ys : List Int) (k : Nat) (V l : Int) (j : Nat) (c : Int) (f : List Int) : Prop :=
  Limbs B f ∧ 0 ≤ c ∧ c < B ∧ val B f + B ^ (k + j) * c = V + B ^ k * (l * val B (ys.take j)) ∧ ∀ i, k + ys.length ≤ i → f.getD i 0 = 0
theorem mul_start {B : Int} (hB : 0 < B) (xs ys : List Int) (n : Nat) : MulInv B xs ys 0 (List.replicate n 0) := by
  have z : ∀ n : Nat, val B (List.replicate n 0) = 0 := by
    intro n
    induction n with
    | zero => rfl
    | succ n ih => rw [List.replicate_succ, val, ih]; simp
  refine ⟨fun x hx => ?_, by rw [z, List.take_zero]; simp [val], fun i _ => ?_⟩
  · rw [List.eq_of_mem_replicate hx]; exact ⟨Int.le_refl _, hB⟩
  · by_cases h : i < n <;> simp [List.getD_eq_getElem?_getD, List.getElem?_replicate, h]
theorem row_start {B l : Int} {xs ys f : List Int} {k : Nat} (hB : 0 < B) (h : MulInv B xs ys k f) : RowInv B ys k (val B f) l 0 0 f :=
  ⟨h.1, Int.le_refl _, hB, by simp [val], h.2.2⟩
theorem row_step {B V l c : Int} {ys f : List Int} {k j : Nat} (hB : 0 < B) (hy : Limbs B ys) (l0 : 0 ≤ l) (l1 : l < B) (hj : j < ys.length) (hlen : k + j < f.length) (h : RowInv B ys k V l j c f) :
    RowInv B ys k V l (j + 1) ((c + (f.getD (k + j) 0 + l * ys.getD j 0)).fdiv B) (f.set (k + j) ((c + (f.getD (k + j) 0 + l * ys.getD j 0)).fmod B)) := by
  obtain ⟨hf, c0, c1, hv, hz⟩ := h
  have ⟨y0, y1⟩ := limbs_getD hB hy j
  have ⟨f0, f1⟩ := limbs_getD hB hf (k + j)
  have ⟨e, r0, r1⟩ := fdiv_fmod (t := c + (f.getD (k + j) 0 + l * ys.getD j 0)) hB
  have p0 : 0 ≤ l * ys.getD j 0 := Int.mul_nonneg l0 y0
  have p1 : l * ys.getD j 0 ≤ (B - 1) * (B - 1) := Int.le_trans (Int.mul_le_mul_of_nonneg_right (show l ≤ B - 1 by omega) y0) (Int.mul_le_mul_of_nonneg_left (show ys.getD j 0 ≤ B - 1 by omega) (by omega))
  have p2 : (B - 1) * (B - 1) = B * B - B - (B - 1) := by rw [Int.sub_mul, Int.mul_sub, Int.mul_one, Int.one_mul]
  refine ⟨limbs_set hf _ r0 r1, fdiv_nonneg' hB (by omega), fdiv_lt hB (by omega), ?_, fun i hi => ?_⟩
  · rw [val_set B f _ _ hlen, ← Nat.add_assoc, Int.pow_succ, val_take_succ, Int.mul_add l, Int.mul_add (B ^ k)]
    have e2 : B ^ (k + j) * (c + (f.getD (k + j) 0 + l * ys.getD j 0)) = B ^ (k + j) * (B * (c + (f.getD (k + j) 0 + l * ys.getD j 0)).fdiv B) + B ^ (k + j) * (c + (f.getD (k + j) 0 + l * ys.getD j 0)).fmod B := by rw [← Int.mul_add, ← e]
    have e3 : B ^ (k + j) * (c + (f.getD (k + j) 0 + l * ys.getD j 0)) = B ^ (k + j) * c + (B ^ (k + j) * f.getD (k + j) 0 + B ^ (k + j) * (l * ys.getD j 0)) := by rw [Int.mul_add, Int.mul_add]
    have e4 : B ^ k * (l * (B ^ j * ys.getD j 0)) = B ^ (k + j) * (l * ys.getD j 0) := by
      rw [Int.pow_add, Int.mul_assoc, ← Int.mul_assoc l, ← Int.mul_assoc (B ^ j), Int.mul_comm l (B ^ j)]
    rw [Int.mul_sub, e4, Int.mul_assoc]
    omega
  · rw [getD_set_ne (by omega)]; exact hz i hi
theorem row_done {B l c : Int} {xs ys f f0 : List Int} {k : Nat} (hB : 0 < B) (h0 : MulInv B xs ys k f0) (hl : xs.getD k 0 = l) (hlen : k + ys.length < f.length) (h : RowInv B ys k (val B f0) l ys.length c f) : MulInv B xs ys (k + 1) (f.set (k + ys.length) c) := by
  obtain ⟨hf, c0, c1, hv, hz⟩ := h
  refine ⟨limbs_set hf _ c0 c1, ?_, fun i hi => ?_⟩
  · rw [val_set B f _ _ hlen, hz _ (Nat.le_refl _), Int.sub_zero, hv, h0.2.1, val_take_succ, hl, List.take_length, Int.add_mul, Int.mul_assoc]
  · rw [getD_set_ne (by omega)]; exact hz i (by omega)
theorem mul_done {B m n : Int} {xs ys f : List Int} (hx : Dg B xs m) (hy : Dg B ys n) (h : MulInv B xs ys xs.length f) : Limbs B f ∧ val B f = m * n := by
  refine ⟨h.1, ?_⟩
  rw [h.2.1, List.take_length, hx.2.1, hy.2.1]
theorem zeros_flat (n : Nat) : (List.replicate n [(0 : Int)]).flatten = List.replicate n 0 := by
  induction n with
  | zero => rfl
  | succ n ih => rw [List.replicate_succ, List.flatten_cons, ih, List.replicate_succ]; rfl
end
/- part nc -/
section
noncomputable def ncC : Con Int where
  Rel := fun _ vs d => ∃ t, vs = [.int d t]
  Ok := fun d => 0 ≤ d
  size := 5
  Out := fun _ r tl => tl = [] ∧ r = .none
theorem nc_ok : Keeps 81 ncC := by
  w_top off
  unfold Keeps
  k_fill
  intro w mean mg mb d dp un gd cn cs a ccd cl outer A₀ base h₀ L m news s vs Q E B F X N T hk hR hok hd hu hret
  obtain ⟨tn, rfl⟩ := hR
  dsimp only [ncC] at hok hd hu hret ⊢
  refine wpAny_call ?_
  k_dflt ktr_enter
  have kMark := kstMark
  rename_i N' _ _ _
  k_with_none
  (repeat' (first | (k_unfold; (try dsimp only)) | (k_end; wrow_close) | ((((fail_if_success (with_reducible show wpAny _ _ (PySem.exec (Stmt.While _ _ _ _) _) _ _ _)); (fail_if_success (with_reducible show wpAny _ _ (PySem.exec (Stmt.For _ _ _ _ _) _) _ _ _)); (fail_if_success (with_reducible show wpAny _ _ (pyIter (Value.ref _)) (fun it s₂ => LoopAtV _ _ _ _ _ _ _ _ _ it s₂) _ _)); (fail_if_success (with_reducible show wpAny _ _ (pyIter (Value.ref _)) (fun it s₂ => PairAt3 _ _ _ _ _ _ _ _ _ _ it s₂) _ _)))); first | walk1 | (dsimp only; walk1)) | (leave1; walk_say "STEP leave1"; try dsimp only) | fail "no step"))
  (rename News _ _ _ _ => kN9; exact hret _ [] _ _ (by assumption) (news_sub kN9 (by intro p9 h9; kst_mem)) (fun _ _ _ h => nomatch h) ⟨rfl, rfl⟩)
end
/- part fpp -/
section
theorem fib_small : ∀ k : Fin 6, fibZ k.1 * (2 * fibZ (k.1 + 1) - fibZ k.1) = fibZ (2 * k.1) ∧ fibZ k.1 * fibZ k.1 + fibZ (k.1 + 1) * fibZ (k.1 + 1) = fibZ (2 * k.1 + 1) ∧ fibZ k.1 ≤ 2 * fibZ (k.1 + 1) ∧ fibZ k.1 ≤ 10 ∧ fibZ (k.1 + 1) ≤ 13 ∧ fibZ (2 * k.1) ≤ 55 ∧ fibZ (2 * k.1 + 1) ≤ 89 ∧ fibZ (2 * k.1) + fibZ (2 * k.1 + 1) = fibZ (2 * k.1 + 2) := by decide +kernel
theorem bit_small : ∀ n : Fin 11, ∀ a : Fin 4, (Builtin.bitAnd ((n.1 : Int).fdiv (2 ^ a.1)) 1 = 1 → n.1 / 2 ^ a.1 = 2 * (n.1 / 2 ^ (a.1 + 1)) + 1) ∧ (Builtin.bitAnd ((n.1 : Int).fdiv (2 ^ a.1)) 1 ≠ 1 → n.1 / 2 ^ a.1 = 2 * (n.1 / 2 ^ (a.1 + 1))) := by decide +kernel
theorem len_small : ∀ n : Fin 11, Builtin.Int.intBits (n.1 : Int) ≤ 4 ∧ n.1 / 2 ^ Builtin.Int.intBits (n.1 : Int) = 0 := by decide +kernel
/-- where the doubling stands: the leading bits of n above place at -/
noncomputable def fpK (n at_ : Int) : Nat := n.toNat / 2 ^ (at_ + 1).toNat
theorem fp_facts {n at_ : Int} (h0 : 0 ≤ n) (h1 : n ≤ 10) (a0 : 0 ≤ at_) (a1 : at_ ≤ 3) :
    fibZ (fpK n at_) * (2 * fibZ (fpK n at_ + 1) - fibZ (fpK n at_)) = fibZ (2 * fpK n at_) ∧ fibZ (fpK n at_) * fibZ (fpK n at_) + fibZ (fpK n at_ + 1) * fibZ (fpK n at_ + 1) = fibZ (2 * fpK n at_ + 1) ∧
      fibZ (fpK n at_) ≤ 2 * fibZ (fpK n at_ + 1) ∧ fibZ (fpK n at_) ≤ 10 ∧ fibZ (fpK n at_ + 1) ≤ 13 ∧ fibZ (2 * fpK n at_) ≤ 55 ∧ fibZ (2 * fpK n at_ + 1) ≤ 89 ∧ fibZ (2 * fpK n at_) + fibZ (2 * fpK n at_ + 1) = fibZ (2 * fpK n at_ + 2) := by
  have hk : fpK n at_ < 6 := by
    unfold fpK
    have e : (at_ + 1).toNat = at_.toNat + 1 := by omega
    have p : 0 < 2 ^ at_.toNat := Nat.two_pow_pos _
    rw [e, Nat.pow_succ, Nat.mul_comm, ← Nat.div_div_eq_div_mul]
    exact Nat.lt_of_le_of_lt (Nat.div_le_self _ _) (by omega)
  exact fib_small ⟨_, hk⟩
theorem fp_next {n at_ : Int} (h0 : 0 ≤ n) (h1 : n ≤ 10) (a0 : 0 ≤ at_) (a1 : at_ ≤ 3) :
    (Builtin.bitAnd (n.fdiv (2 ^ at_.toNat)) 1 = 1 → fpK n (at_ - 1) = 2 * fpK n at_ + 1) ∧ (Builtin.bitAnd (n.fdiv (2 ^ at_.toNat)) 1 ≠ 1 → fpK n (at_ - 1) = 2 * fpK n at_) := by
  have h := bit_small ⟨n.toNat, by omega⟩ ⟨at_.toNat, by omega⟩
  have e1 : ((n.toNat : Nat) : Int) = n := by omega
  have e2 : (at_ - 1 + 1).toNat = at_.toNat := by omega
  have e3 : (at_ + 1).toNat = at_.toNat + 1 := by omega
  simp only [e1] at h
  unfold fpK
  rw [e2, e3]
  exact h
theorem fp_first {n : Int} (h0 : 0 ≤ n) (h1 : n ≤ 10) : -1 ≤ ((Builtin.Int.intBits n : Nat) : Int) - 1 ∧ ((Builtin.Int.intBits n : Nat) : Int) - 1 ≤ 3 ∧ fpK n (((Builtin.Int.intBits n : Nat) : Int) - 1) = 0 := by
  have h := len_small ⟨n.toNat, by omega⟩
  have e1 : ((n.toNat : Nat) : Int) = n := by omega
  simp only [e1] at h
  have e2 : (((Builtin.Int.intBits n : Nat) : Int) - 1 + 1).toNat = Builtin.Int.intBits n := by omega
  unfold fpK
  rw [e2]
  exact ⟨by omega, by omega, h.2⟩
theorem fp_last {n at_ : Int} (h : at_ = -1) : fpK n at_ = n.toNat := by
  subst h; unfold fpK; simp
structure FpS where
  p : Addr
  a1 : Addr
  us1 : List Value
  k1 : Nat
  xs1 : List Int
  a2 : Addr
  us2 : List Value
  k2 : Nat
  xs2 : List Int
  at_ : Int
  tk : Nat
noncomputable abbrev fpLed (news : List (Addr × Obj)) (c : FpS) : List (Addr × Obj) := (c.p, tup2 (.ref c.a1) (.ref c.a2)) :: (c.a1, listOf c.us1.toArray c.k1) :: (c.a2, listOf c.us2.toArray c.k2) :: news
noncomputable abbrev fpPs (c : FpS) : List (Str × Value) := [(Str.ofString "pair", .ref c.p), (Str.ofString "at", .int c.at_ c.tk)]
theorem lt_of_three {a b c : Addr} {o o2 o3 : Obj} {news : List (Addr × Obj)} (h : ∀ q ∈ news, ∀ p ∈ [(a, o), (b, o2), (c, o3)], q.1 < p.1) : AllLt a news ∧ AllLt b news ∧ AllLt c news :=
  ⟨allLt_of fun q hq => h q hq _ (.head _), allLt_of fun q hq => h q hq _ (.tail _ (.head _)), allLt_of fun q hq => h q hq _ (.tail _ (.tail _ (.head _)))⟩
noncomputable def FpInv (w n : Int) (news : List (Addr × Obj)) (c : FpS) : Prop := (AllLt c.p news ∧ AllLt c.a1 news ∧ AllLt c.a2 news) ∧ IntsAre c.us1 c.xs1 ∧ IntsAre c.us2 c.xs2 ∧ Dg (2 ^ w.toNat) c.xs1 (fibZ (fpK n c.at_)) ∧ Dg (2 ^ w.toNat) c.xs2 (fibZ (fpK n c.at_ + 1)) ∧ -1 ≤ c.at_ ∧ c.at_ ≤ 3
theorem fp_end {h₀ h' : Heap} {L : Addr} {s : Shared} {stored : List Str} {m₀ m' : Str → Option Value} {c : FpS} {tk : Nat} {news news' : List (Addr × Obj)} {w n : Int}
    {p a1 a2 : Addr} {us1 us2 : List Value} {k1 k2 : Nat} {xs1 xs2 : List Int} {at_ : Int} {tk' : Nat}
    (F : Fr h₀ L h' m') (N : News h₀ L h' news') (h1 : m' (Str.ofString "pair") = some (.ref p)) (h2 : m' (Str.ofString "at") = some (.int at_ tk')) (m1 : (p, tup2 (.ref a1) (.ref a2)) ∈ news') (m2 : (a1, listOf us1.toArray k1) ∈ news') (m3 : (a2, listOf us2.toArray k2) ∈ news')
    (hs : ∀ q ∈ news, q ∈ news') (i1 : IntsAre us1 xs1) (i2 : IntsAre us2 xs2) (hr : ∀ z, z ≠ Str.ofString "pair" → z ≠ Str.ofString "at" → stored.contains z = false → m' z = m₀ z)
    (d1 : Dg (2 ^ w.toNat) xs1 (fibZ (fpK n at_))) (d2 : Dg (2 ^ w.toNat) xs2 (fibZ (fpK n at_ + 1))) (b : -1 ≤ at_ ∧ at_ ≤ 3) (ll : AllLt p news ∧ AllLt a1 news ∧ AllLt a2 news) (hm : (at_ + 1).toNat < (c.at_ + 1).toNat) :
    KswEnd h₀ L s (fpLed news) fpPs (fun _ => True) stored m₀ (FpInv w n news) (fun c => (c.at_ + 1).toNat) c { s with heap := h', toks := tk } :=
  ksw_end ⟨p, a1, us1, k1, xs1, a2, us2, k2, xs2, at_, tk'⟩ F N (by
    intro q hq
    rcases List.mem_cons.mp hq with e | hq
    · rw [e]; exact m1
    · rcases List.mem_cons.mp hq with e | hq
      · rw [e]; exact m2
      · rcases List.mem_cons.mp hq with e | hq
        · rw [e]; exact m3
        · exact hs q hq) trivial (by
    intro q hq
    rcases List.mem_cons.mp hq with e | hq
    · rw [e]; exact h1
    · rw [List.mem_singleton.mp hq]; exact h2) (fun z hz hc => hr z (hz _ (.head _)) (hz _ (.tail _ (.head _))) hc) ⟨ll, i1, i2, d1, d2, b⟩ hm
end
/- part sub -/
section
theorem cmp_nonneg {m n : Int} (h : n ≤ m) : 0 ≤ cmpI m n := by
  unfold cmpI; rw [if_neg (by omega)]; split <;> omega
theorem sub_neg {w b t k : Int} {xs ys f pre : List Int} (h : SubInv (2 ^ w.toNat) xs ys pre.length b f) (e : k = 0 + (pre.length : Int)) (hx : Limbs (2 ^ w.toNat) xs) (hy : Limbs (2 ^ w.toNat) ys) (ht : t < 0)
    (et : t = xs.getD k.toNat 0 - b - ys.getD k.toNat 0) : SubInv (2 ^ w.toNat) xs ys (pre ++ [k]).length 1 (f ++ [t + 1 * 2 ^ w.toNat]) := by
  have e2 : k.toNat = pre.length := by omega
  rw [e2] at et
  have := sub_step (base_pos w.toNat) hx hy h et
  rw [if_pos ht, if_pos ht] at this
  simpa using this
theorem sub_pos {w b t k : Int} {xs ys f pre : List Int} (h : SubInv (2 ^ w.toNat) xs ys pre.length b f) (e : k = 0 + (pre.length : Int)) (hx : Limbs (2 ^ w.toNat) xs) (hy : Limbs (2 ^ w.toNat) ys) (ht : ¬ t < 0)
    (et : t = xs.getD k.toNat 0 - b - ys.getD k.toNat 0) : SubInv (2 ^ w.toNat) xs ys (pre ++ [k]).length 0 (f ++ [t]) := by
  have e2 : k.toNat = pre.length := by omega
  rw [e2] at et
  have := sub_step (base_pos w.toNat) hx hy h et
  rw [if_neg ht, if_neg ht] at this
  simpa using this
theorem sub_none {x b : Int} {ys : List Int} {k : Nat} (h : ys.length ≤ k) : x - b - 0 = x - b - ys.getD k 0 := by
  have : ys.getD k 0 = 0 := by simp [List.getD_eq_getElem?_getD, h]
  rw [this]
theorem sub_at {B b : Int} {xs ys f : List Int} (h : SubInv B xs ys (rangeKs 0 ((xs.length : Int) - 0).toNat).length b f) : SubInv B xs ys xs.length b f := by
  rw [rangeKs_length] at h; simpa using h
theorem sub_ok : Keeps 67 subC := by
  w_top off
  unfold Keeps
  k_fill
  intro w mean mg mb d dp un gd cn cs a ccd cl outer A₀ base h₀ L m news s vs Q E B F X N T hk hR hok hd hu hret
  obtain ⟨wd, dm, dn⟩ := d
  obtain ⟨_, _, tw, rfl, ⟨a1, us1, n1, xs, rfl, hm1, hi1, hg1⟩, ⟨a2, us2, n2, ys, rfl, hm2, hi2, hg2⟩⟩ := hR
  dsimp only [subC] at hok hd hu hret hi1 hi2 hg1 hg2 ⊢
  obtain ⟨hw1, hw2, hx1, hx2⟩ := hok
  have hB := base_ge hw1
  have hn0 := (hg2.lt (by omega)).1
  have hl1 := hg1.len_bound (by omega)
  have hl2 := hg2.len_bound (by omega)
  have hL1 := hg1.1
  have hL2 := hg2.1
  have hc := cmp_nonneg hx2
  refine wpAny_call ?_
  k_dflt ktr_enter
  have kMark := kstMark
  rename_i N' _ _ _
  have N2 := news_at (news_at N' hm1) (List.mem_cons_of_mem _ hm2)
  clear N'
  k_with_none
  k_with "state" => first | exact ⟨rfl, by decide, sub_start _ _ _⟩ | exact ⟨by kst_p1, by decide, sub_neg (by assumption) (by omega) hL1 hL2 (by assumption) (by first | rfl | exact sub_none (by omega))⟩ | exact ⟨by kst_p1, by decide, sub_pos (by assumption) (by omega) hL1 hL2 (by assumption) (by first | rfl | exact sub_none (by omega))⟩
  (repeat' (first | (k_unfold; (try dsimp only)) | (k_end; wrow_close) | (k_here; (with_reducible show wpAny _ _ (PySem.call (Value.ref 53) _) _ _ _); (refine' keeps_use (d := ⟨_, _, _⟩) compare_ok ?k1 ?k2 ?k3 ?k4 ?k5 ?kK ?kR ?ko ?kd ?ku ?_); (case k1 => k_asm); (case k2 => k_asm); (case k3 => k_asm); (case k4 => k_asm); (case k5 => k_asm); (case kK => first | exact rfl | assumption); (case kR => exact ⟨_, _, (by exact rfl), ⟨_, _, _, _, (by exact rfl), by k_memK, by assumption, by assumption⟩, ⟨_, _, _, _, (by exact rfl), by k_memK, by assumption, by assumption⟩⟩); (case ko => (refine ⟨?_, ?_, ?_⟩ <;> (try dsimp only) <;> omega)); (case kd => first | ((simp only [compareC, depth_deeper, depth_in1, depth_under_make, depth_under_kw]); (try dsimp only [ktrTop]); omega) | decide +kernel); (case ku => first | ((simp only [compareC, units_deeper, units_in1, Around.mark_units]); (try dsimp only [ktrTop]); omega) | decide +kernel); (intro r9 tl9 h9 tk9 F' N' hl9 ho9); (obtain ⟨e2, t9, e1⟩ := ho9); (subst e1; subst e2); (simp only [List.nil_append] at N'); (clear hl9); (try dsimp only)) | ((((fail_if_success (with_reducible show wpAny _ _ (PySem.exec (Stmt.While _ _ _ _) _) _ _ _)); (fail_if_success (with_reducible show wpAny _ _ (PySem.exec (Stmt.For _ _ _ _ _) _) _ _ _)); (fail_if_success (with_reducible show wpAny _ _ (pyIter (Value.ref _)) (fun it s₂ => LoopAtV _ _ _ _ _ _ _ _ _ it s₂) _ _)); (fail_if_success (with_reducible show wpAny _ _ (pyIter (Value.ref _)) (fun it s₂ => PairAt3 _ _ _ _ _ _ _ _ _ _ it s₂) _ _)))); first | walk1 | (dsimp only; walk1)) | (leave1; walk_say "STEP leave1"; try dsimp only) | fail "no step"))
  walk_at "for"
  (repeat' (first | (k_unfold; (try dsimp only)) | (k_end; wrow_close) | (k_here; (with_reducible show wpAny _ _ (PySem.call (Value.ref 53) _) _ _ _); (refine' keeps_use (d := ⟨_, _, _⟩) compare_ok ?k1 ?k2 ?k3 ?k4 ?k5 ?kK ?kR ?ko ?kd ?ku ?_); (case k1 => k_asm); (case k2 => k_asm); (case k3 => k_asm); (case k4 => k_asm); (case k5 => k_asm); (case kK => first | exact rfl | assumption); (case kR => exact ⟨_, _, (by exact rfl), ⟨_, _, _, _, (by exact rfl), by k_memK, by assumption, by assumption⟩, ⟨_, _, _, _, (by exact rfl), by k_memK, by assumption, by assumption⟩⟩); (case ko => (refine ⟨?_, ?_, ?_⟩ <;> (try dsimp only) <;> omega)); (case kd => first | ((simp only [compareC, depth_deeper, depth_in1, depth_under_make, depth_under_kw]); (try dsimp only [ktrTop]); omega) | decide +kernel); (case ku => first | ((simp only [compareC, units_deeper, units_in1, Around.mark_units]); (try dsimp only [ktrTop]); omega) | decide +kernel); (intro r9 tl9 h9 tk9 F' N' hl9 ho9); (obtain ⟨e2, t9, e1⟩ := ho9); (subst e1; subst e2); (simp only [List.nil_append] at N'); (clear hl9); (try dsimp only)) | ((((fail_if_success (with_reducible show wpAny _ _ (PySem.exec (Stmt.While _ _ _ _) _) _ _ _)); (fail_if_success (with_reducible show wpAny _ _ (PySem.exec (Stmt.For _ _ _ _ _) _) _ _ _)); (fail_if_success (with_reducible show wpAny _ _ (pyIter (Value.ref _)) (fun it s₂ => LoopAtV _ _ _ _ _ _ _ _ _ it s₂) _ _)); (fail_if_success (with_reducible show wpAny _ _ (pyIter (Value.ref _)) (fun it s₂ => PairAt3 _ _ _ _ _ _ _ _ _ _ it s₂) _ _)))); first | walk1 | (dsimp only; walk1)) | (leave1; walk_say "STEP leave1"; try dsimp only) | fail "no step"))
  k_state_given ["a", "b", "w"] (fun xs ys w pre borrow found => found.length = pre.length ∧ (0 ≤ borrow ∧ borrow ≤ 1) ∧ SubInv (2 ^ w.toNat) xs ys pre.length borrow found) "borrow" "found"
  · (repeat' (first | (k_unfold; (try dsimp only)) | (k_end; wrow_close) | (k_here; (with_reducible show wpAny _ _ (PySem.call (Value.ref 53) _) _ _ _); (refine' keeps_use (d := ⟨_, _, _⟩) compare_ok ?k1 ?k2 ?k3 ?k4 ?k5 ?kK ?kR ?ko ?kd ?ku ?_); (case k1 => k_asm); (case k2 => k_asm); (case k3 => k_asm); (case k4 => k_asm); (case k5 => k_asm); (case kK => first | exact rfl | assumption); (case kR => exact ⟨_, _, (by exact rfl), ⟨_, _, _, _, (by exact rfl), by k_memK, by assumption, by assumption⟩, ⟨_, _, _, _, (by exact rfl), by k_memK, by assumption, by assumption⟩⟩); (case ko => (refine ⟨?_, ?_, ?_⟩ <;> (try dsimp only) <;> omega)); (case kd => first | ((simp only [compareC, depth_deeper, depth_in1, depth_under_make, depth_under_kw]); (try dsimp only [ktrTop]); omega) | decide +kernel); (case ku => first | ((simp only [compareC, units_deeper, units_in1, Around.mark_units]); (try dsimp only [ktrTop]); omega) | decide +kernel); (intro r9 tl9 h9 tk9 F' N' hl9 ho9); (obtain ⟨e2, t9, e1⟩ := ho9); (subst e1; subst e2); (simp only [List.nil_append] at N'); (clear hl9); (try dsimp only)) | ((((fail_if_success (with_reducible show wpAny _ _ (PySem.exec (Stmt.While _ _ _ _) _) _ _ _)); (fail_if_success (with_reducible show wpAny _ _ (PySem.exec (Stmt.For _ _ _ _ _) _) _ _ _)); (fail_if_success (with_reducible show wpAny _ _ (pyIter (Value.ref _)) (fun it s₂ => LoopAtV _ _ _ _ _ _ _ _ _ it s₂) _ _)); (fail_if_success (with_reducible show wpAny _ _ (pyIter (Value.ref _)) (fun it s₂ => PairAt3 _ _ _ _ _ _ _ _ _ _ it s₂) _ _)))); first | walk1 | (dsimp only; walk1)) | (leave1; walk_say "STEP leave1"; try dsimp only) | fail "no step"))
  (repeat' (first | (k_unfold; (try dsimp only)) | (k_end; wrow_close) | (k_here; (with_reducible show wpAny _ _ (PySem.call (Value.ref 53) _) _ _ _); (refine' keeps_use (d := ⟨_, _, _⟩) compare_ok ?k1 ?k2 ?k3 ?k4 ?k5 ?kK ?kR ?ko ?kd ?ku ?_); (case k1 => k_asm); (case k2 => k_asm); (case k3 => k_asm); (case k4 => k_asm); (case k5 => k_asm); (case kK => first | exact rfl | assumption); (case kR => exact ⟨_, _, (by exact rfl), ⟨_, _, _, _, (by exact rfl), by k_memK, by assumption, by assumption⟩, ⟨_, _, _, _, (by exact rfl), by k_memK, by assumption, by assumption⟩⟩); (case ko => (refine ⟨?_, ?_, ?_⟩ <;> (try dsimp only) <;> omega)); (case kd => first | ((simp only [compareC, depth_deeper, depth_in1, depth_under_make, depth_under_kw]); (try dsimp only [ktrTop]); omega) | decide +kernel); (case ku => first | ((simp only [compareC, units_deeper, units_in1, Around.mark_units]); (try dsimp only [ktrTop]); omega) | decide +kernel); (intro r9 tl9 h9 tk9 F' N' hl9 ho9); (obtain ⟨e2, t9, e1⟩ := ho9); (subst e1; subst e2); (simp only [List.nil_append] at N'); (clear hl9); (try dsimp only)) | ((((fail_if_success (with_reducible show wpAny _ _ (PySem.exec (Stmt.While _ _ _ _) _) _ _ _)); (fail_if_success (with_reducible show wpAny _ _ (PySem.exec (Stmt.For _ _ _ _ _) _) _ _ _)); (fail_if_success (with_reducible show wpAny _ _ (pyIter (Value.ref _)) (fun it s₂ => LoopAtV _ _ _ _ _ _ _ _ _ it s₂) _ _)); (fail_if_success (with_reducible show wpAny _ _ (pyIter (Value.ref _)) (fun it s₂ => PairAt3 _ _ _ _ _ _ _ _ _ _ it s₂) _ _)))); first | walk1 | (dsimp only; walk1)) | (leave1; walk_say "STEP leave1"; try dsimp only) | fail "no step"))
  have hend := sub_done (by omega) hg1 hg2 hx2 (sub_at (by assumption))
  ((refine' keeps_use (d := ⟨wd, _⟩) normal_ok ?k1 ?k2 ?k3 ?k4 ?k5 ?kK ?kR ?ko ?kd ?ku ?_); (case k1 => k_asm); (case k2 => k_asm); (case k3 => k_asm); (case k4 => k_asm); (case k5 => k_asm); (case kK => first | exact rfl | assumption); (case kR => exact ⟨_, rfl, _, _, _, rfl, by k_memK, by assumption⟩); (case ko => exact ⟨hw1, by (try simp only [rangeKs_length] at *); (try dsimp only); omega, hend.1⟩); (case kd => first | ((simp only [normalC, depth_deeper, depth_in1, depth_under_make, depth_under_kw]); (try dsimp only [ktrTop]); omega) | decide +kernel); (case ku => first | ((simp only [normalC, units_deeper, units_in1, Around.mark_units]); (try dsimp only [ktrTop]); omega) | decide +kernel); (intro r9 tl9 h9 tk9 F' N' hl9 ho9); (obtain ⟨a9, us9, k9, xs9, e1, e2, hi9, hg9⟩ := ho9); (subst e1; subst e2); (simp only [List.cons_append, List.nil_append] at N'); (have l1 := lt_of_one hl9); (try simp only [AllLt, and_true] at l1); (clear hl9); (try dsimp only at hg9); (have hL9 := hg9.1))
  (try dsimp only at hg9)
  rw [hend.2] at hg9
  (repeat' (first | (k_unfold; (try dsimp only)) | (k_end; wrow_close) | (k_here; (with_reducible show wpAny _ _ (PySem.call (Value.ref 53) _) _ _ _); (refine' keeps_use (d := ⟨_, _, _⟩) compare_ok ?k1 ?k2 ?k3 ?k4 ?k5 ?kK ?kR ?ko ?kd ?ku ?_); (case k1 => k_asm); (case k2 => k_asm); (case k3 => k_asm); (case k4 => k_asm); (case k5 => k_asm); (case kK => first | exact rfl | assumption); (case kR => exact ⟨_, _, (by exact rfl), ⟨_, _, _, _, (by exact rfl), by k_memK, by assumption, by assumption⟩, ⟨_, _, _, _, (by exact rfl), by k_memK, by assumption, by assumption⟩⟩); (case ko => (refine ⟨?_, ?_, ?_⟩ <;> (try dsimp only) <;> omega)); (case kd => first | ((simp only [compareC, depth_deeper, depth_in1, depth_under_make, depth_under_kw]); (try dsimp only [ktrTop]); omega) | decide +kernel); (case ku => first | ((simp only [compareC, units_deeper, units_in1, Around.mark_units]); (try dsimp only [ktrTop]); omega) | decide +kernel); (intro r9 tl9 h9 tk9 F' N' hl9 ho9); (obtain ⟨e2, t9, e1⟩ := ho9); (subst e1; subst e2); (simp only [List.nil_append] at N'); (clear hl9); (try dsimp only)) | ((((fail_if_success (with_reducible show wpAny _ _ (PySem.exec (Stmt.While _ _ _ _) _) _ _ _)); (fail_if_success (with_reducible show wpAny _ _ (PySem.exec (Stmt.For _ _ _ _ _) _) _ _ _)); (fail_if_success (with_reducible show wpAny _ _ (pyIter (Value.ref _)) (fun it s₂ => LoopAtV _ _ _ _ _ _ _ _ _ it s₂) _ _)); (fail_if_success (with_reducible show wpAny _ _ (pyIter (Value.ref _)) (fun it s₂ => PairAt3 _ _ _ _ _ _ _ _ _ _ it s₂) _ _)))); first | walk1 | (dsimp only; walk1)) | (leave1; walk_say "STEP leave1"; try dsimp only) | fail "no step"))
  (
    (rename News _ _ _ _ => kN9)
    (try simp only [List.push_toArray] at kN9)
    (refine' hret _ [(_, listOf (List.toArray _) _)] _ _ (by assumption) (made_one kN9 ?hin ?hsub) (ord_one ?hlt) ⟨_, _, _, _, rfl, rfl, ?hi, ?hd⟩)
    case hin => k_memK
    case hsub => (intro p9 h9; kst_mem)
    case hlt => (first | assumption | exact allLt_of (by assumption) | exact lt_app (by assumption) | exact And.right (by assumption) | exact lt_app (And.right (by assumption)) | exact And.right (And.right (by assumption)) | exact lt_app (And.right (And.right (by assumption))) | exact And.right (And.right (And.right (by assumption))) | exact lt_app (And.right (And.right (And.right (by assumption)))) | exact And.right (And.right (And.right (And.right (by assumption)))) | exact lt_app (And.right (And.right (And.right (And.right (by assumption))))) | exact And.right (And.right (And.right (And.right (And.right (by assumption))))) | exact lt_app (And.right (And.right (And.right (And.right (And.right (by assumption)))))) | exact And.right (And.right (And.right (And.right (And.right (And.right (by assumption)))))) | exact lt_app (And.right (And.right (And.right (And.right (And.right (And.right (by assumption))))))) | exact And.right (And.right (And.right (And.right (And.right (And.right (And.right (by assumption))))))) | exact lt_app (And.right (And.right (And.right (And.right (And.right (And.right (And.right (by assumption)))))))) | exact And.right (And.right (And.right (And.right (And.right (And.right (And.right (And.right (by assumption)))))))) | exact lt_app (And.right (And.right (And.right (And.right (And.right (And.right (And.right (And.right (by assumption))))))))) | exact And.right (And.right (And.right (And.right (And.right (And.right (And.right (And.right (And.right (by assumption))))))))) | exact lt_app (And.right (And.right (And.right (And.right (And.right (And.right (And.right (And.right (And.right (by assumption)))))))))) | exact And.right (And.right (And.right (And.right (And.right (And.right (And.right (And.right (And.right (And.right (by assumption)))))))))) | exact lt_app (And.right (And.right (And.right (And.right (And.right (And.right (And.right (And.right (And.right (And.right (by assumption))))))))))) | exact And.right (And.right (And.right (And.right (And.right (And.right (And.right (And.right (And.right (And.right (And.right (by assumption))))))))))) | exact lt_app (And.right (And.right (And.right (And.right (And.right (And.right (And.right (And.right (And.right (And.right (And.right (by assumption)))))))))))) | exact And.right (And.right (And.right (And.right (And.right (And.right (And.right (And.right (And.right (And.right (And.right (And.right (by assumption)))))))))))) | exact lt_app (And.right (And.right (And.right (And.right (And.right (And.right (And.right (And.right (And.right (And.right (And.right (And.right (by assumption))))))))))))) | exact And.right (And.right (And.right (And.right (And.right (And.right (And.right (And.right (And.right (And.right (And.right (And.right (And.right (by assumption))))))))))))) | exact lt_app (And.right (And.right (And.right (And.right (And.right (And.right (And.right (And.right (And.right (And.right (And.right (And.right (And.right (by assumption)))))))))))))) | exact And.right (And.right (And.right (And.right (And.right (And.right (And.right (And.right (And.right (And.right (And.right (And.right (And.right (And.right (by assumption)))))))))))))) | exact lt_app (And.right (And.right (And.right (And.right (And.right (And.right (And.right (And.right (And.right (And.right (And.right (And.right (And.right (And.right (by assumption))))))))))))))) | exact And.right (And.right (And.right (And.right (And.right (And.right (And.right (And.right (And.right (And.right (And.right (And.right (And.right (And.right (And.right (by assumption))))))))))))))) | exact lt_app (And.right (And.right (And.right (And.right (And.right (And.right (And.right (And.right (And.right (And.right (And.right (And.right (And.right (And.right (And.right (by assumption)))))))))))))))) | exact And.right (And.right (And.right (And.right (And.right (And.right (And.right (And.right (And.right (And.right (And.right (And.right (And.right (And.right (And.right (And.right (by assumption)))))))))))))))) | exact lt_app (And.right (And.right (And.right (And.right (And.right (And.right (And.right (And.right (And.right (And.right (And.right (And.right (And.right (And.right (And.right (And.right (by assumption))))))))))))))))))
    case hi => first | exact .nil | assumption | kst_facts
    case hd => exact hg9)
end
/- part mul -/
section
theorem at_pre {xs pre post : List Int} {n : Int} (e : xs = pre ++ n :: post) : xs.getD pre.length 0 = n ∧ pre.length < xs.length := by
  subst e
  exact ⟨by simp [List.getD_eq_getElem?_getD], by rw [List.length_append, List.length_cons]; omega⟩
theorem found_in {h₀ h : Heap} {L fa : Addr} {led : List (Addr × Obj)} {us : List Value} {zs : List Int} {k : Nat} (N : News h₀ L h led) (i : IntsAre us zs) (hm : (fa, listOf us.toArray k) ∈ led) : ∃ us k, IntsAre us zs ∧ (fa, listOf us.toArray k) ∈ led := ⟨us, k, i, hm⟩
theorem row_turn {w V l c n2 i : Int} {ys f pre2 post2 : List Int} {k la : Nat} (hi : i = (k : Int) + (pre2.length : Int)) (e : ys = pre2 ++ n2 :: post2) (hy : Limbs (2 ^ w.toNat) ys) (l0 : 0 ≤ l ∧ l < 2 ^ w.toNat) (hlen : f.length = la + ys.length) (hk : k < la)
    (h : RowInv (2 ^ w.toNat) ys k V l pre2.length c f) :
    (f.set i.toNat (Builtin.bitAnd (c + (f.getD i.toNat 0 + l * n2)) (1 * 2 ^ w.toNat - 1))).length = la + ys.length ∧
      RowInv (2 ^ w.toNat) ys k V l (pre2 ++ [n2]).length ((c + (f.getD i.toNat 0 + l * n2)).fdiv (2 ^ w.toNat)) (f.set i.toNat (Builtin.bitAnd (c + (f.getD i.toNat 0 + l * n2)) (1 * 2 ^ w.toNat - 1))) := by
  have e2 : i.toNat = k + pre2.length := by omega
  obtain ⟨e3, hj⟩ := at_pre e
  rw [mask_is, e2]
  refine ⟨by rw [List.length_set]; exact hlen, ?_⟩
  have := row_step (base_pos w.toNat) hy l0.1 l0.2 hj (by omega) h
  rw [e3] at this
  simpa using this
theorem mul_turn {w n c i : Int} {xs ys f f0 pre post : List Int} (hi : i = (pre.length : Int) + (ys.length : Int)) (e : xs = pre ++ n :: post) (hlen : f.length = xs.length + ys.length) (h0 : MulInv (2 ^ w.toNat) xs ys pre.length f0)
    (h : RowInv (2 ^ w.toNat) ys pre.length (val (2 ^ w.toNat) f0) n ys.length c f) :
    (f.set i.toNat c).length = xs.length + ys.length ∧ MulInv (2 ^ w.toNat) xs ys (pre ++ [n]).length (f.set i.toNat c) := by
  have e2 : i.toNat = pre.length + ys.length := by omega
  obtain ⟨e3, hj⟩ := at_pre e
  rw [e2]
  refine ⟨by rw [List.length_set]; exact hlen, ?_⟩
  have := row_done (base_pos w.toNat) h0 e3 (by omega) h
  simpa using this
theorem mul_ok : Keeps 109 mulC := by
  w_top off
  unfold Keeps
  k_fill
  intro w mean mg mb d dp un gd cn cs a ccd cl outer A₀ base h₀ L m news s vs Q E B F X N T hk hR hok hd hu hret
  obtain ⟨wd, dm, dn⟩ := d
  obtain ⟨_, _, tw, rfl, ⟨a1, us1, n1, xs, rfl, hm1, hi1, hg1⟩, ⟨a2, us2, n2, ys, rfl, hm2, hi2, hg2⟩⟩ := hR
  dsimp only [mulC] at hok hd hu hret hi1 hi2 hg1 hg2 ⊢
  obtain ⟨hw1, hw2, hx1, hx2⟩ := hok
  have hB := base_ge hw1
  have hl1 := hg1.len_bound (by omega)
  have hl2 := hg2.len_bound (by omega)
  have hL1 := hg1.1
  have hL2 := hg2.1
  refine wpAny_call ?_
  k_dflt ktr_enter
  have kMark := kstMark
  rename_i N' _ _ _
  have N2 := news_at (news_at N' hm1) (List.mem_cons_of_mem _ hm2)
  clear N'
  k_with_none
  k_with "state" => first | exact row_turn rfl (by assumption) hL2 (by assumption) (by assumption) (by omega) (by assumption) | exact mul_turn rfl (by assumption) (by assumption) (by assumption) (by assumption)
  (repeat' (first | (k_unfold; (try dsimp only)) | (k_end; wrow_close) | ((((fail_if_success (with_reducible show wpAny _ _ (PySem.exec (Stmt.While _ _ _ _) _) _ _ _)); (fail_if_success (with_reducible show wpAny _ _ (PySem.exec (Stmt.For _ _ _ _ _) _) _ _ _)); (fail_if_success (with_reducible show wpAny _ _ (pyIter (Value.ref _)) (fun it s₂ => LoopAtV _ _ _ _ _ _ _ _ _ it s₂) _ _)); (fail_if_success (with_reducible show wpAny _ _ (pyIter (Value.ref _)) (fun it s₂ => PairAt3 _ _ _ _ _ _ _ _ _ _ it s₂) _ _)))); first | walk1 | (dsimp only; walk1)) | (leave1; walk_say "STEP leave1"; try dsimp only) | fail "no step"))
  rename_i fa _ i1 _ _ _ _ _ hfa _ _ _ _ _ _ F1 N1
  walk_at "fort"
  (repeat' (first | (k_unfold; (try dsimp only)) | (k_end; wrow_close) | ((((fail_if_success (with_reducible show wpAny _ _ (PySem.exec (Stmt.While _ _ _ _) _) _ _ _)); (fail_if_success (with_reducible show wpAny _ _ (PySem.exec (Stmt.For _ _ _ _ _) _) _ _ _)); (fail_if_success (with_reducible show wpAny _ _ (pyIter (Value.ref _)) (fun it s₂ => LoopAtV _ _ _ _ _ _ _ _ _ it s₂) _ _)); (fail_if_success (with_reducible show wpAny _ _ (pyIter (Value.ref _)) (fun it s₂ => PairAt3 _ _ _ _ _ _ _ _ _ _ it s₂) _ _)))); first | walk1 | (dsimp only; walk1)) | (leave1; walk_say "STEP leave1"; try dsimp only) | fail "no step"))
  (with_unfolding_all refine' call_enumL (by assumption) (by assumption) ?hm ?_)
  case hm => k_memK
  intro h' it F' N' he9 hit9 hlt9 hLt9
  (repeat' (first | (k_unfold; (try dsimp only)) | (k_end; wrow_close) | ((((fail_if_success (with_reducible show wpAny _ _ (PySem.exec (Stmt.While _ _ _ _) _) _ _ _)); (fail_if_success (with_reducible show wpAny _ _ (PySem.exec (Stmt.For _ _ _ _ _) _) _ _ _)); (fail_if_success (with_reducible show wpAny _ _ (pyIter (Value.ref _)) (fun it s₂ => LoopAtV _ _ _ _ _ _ _ _ _ it s₂) _ _)); (fail_if_success (with_reducible show wpAny _ _ (pyIter (Value.ref _)) (fun it s₂ => PairAt3 _ _ _ _ _ _ _ _ _ _ it s₂) _ _)))); first | walk1 | (dsimp only; walk1)) | (leave1; walk_say "STEP leave1"; try dsimp only) | fail "no step"))
  obtain ⟨us0, k0, i0, hm0⟩ := found_in N' i1 (by k_memK)
  rw [zeros_flat] at i0
  have N2 : News _ _ _ ((fa, listOf us0.toArray k0) :: (a2, listOf us2.toArray n2) :: (a1, listOf us1.toArray n1) :: news) := kst_newsOf N' (by
    intro p hp
    rcases List.mem_cons.mp hp with h | hp
    · rw [h]; exact hm0
    · exact List.Mem.tail _ (List.Mem.tail _ (List.Mem.tail _ hp)))
  (with_unfolding_all refine' kst_enum (σ := List Value × List Int × Nat) (fun c => (fa, listOf c.1.toArray c.2.2) :: (a2, listOf us2.toArray n2) :: (a1, listOf us1.toArray n1) :: news) (fun _ => []) (fun c => IntsAre c.1 c.2.1) [Str.ofString "at", Str.ofString "carry", Str.ofString "spot", Str.ofString "other"] (fun pre c => c.2.1.length = xs.length + ys.length ∧ MulInv (2 ^ wd.toNat) xs ys pre.length c.2.1) ⟨us0, _, k0⟩ rfl he9 hit9 ?hlt hLt9 rfl (by decide) (by intro c p hp; cases hp) ?hl hi1 F' N2 i0 ?hk ?hp ?_ ?_)
  case hlt =>
    intro p hp
    rcases List.mem_cons.mp hp with h | hp
    · rw [h]; exact hlt9 _ hm0
    · exact hlt9 _ (List.Mem.tail _ (List.Mem.tail _ (List.Mem.tail _ hp)))
  case hl => intro c; exact .tail _ (.tail _ (.head _))
  case hk => intro p hp; cases hp
  case hp => exact ⟨by rw [List.length_replicate]; omega, mul_start (base_pos _) xs ys _⟩
  · rintro ⟨us, f, kf⟩ pre post n t ti u h tk own he hoff hfacts ⟨hfl, hinv⟩ kFr kNews
    (try dsimp only [kstB] at kFr); (try dsimp only at kFr); dsimp only at hfacts hfl hinv kNews
    simp only [List.cons_append] at kNews
    have hn := at_pre he
    have hnb := hL1 n (by rw [he]; simp)
    have hb256 := base_le hw2
    (with_reducible show wpAny _ _ _ _ _ _)
    k_fold
    (repeat' (first | (k_unfold; (try dsimp only)) | (k_end; wrow_close) | ((((fail_if_success (with_reducible show wpAny _ _ (PySem.exec (Stmt.While _ _ _ _) _) _ _ _)); (fail_if_success (with_reducible show wpAny _ _ (PySem.exec (Stmt.For _ _ _ _ _) _) _ _ _)); (fail_if_success (with_reducible show wpAny _ _ (pyIter (Value.ref _)) (fun it s₂ => LoopAtV _ _ _ _ _ _ _ _ _ it s₂) _ _)); (fail_if_success (with_reducible show wpAny _ _ (pyIter (Value.ref _)) (fun it s₂ => PairAt3 _ _ _ _ _ _ _ _ _ _ it s₂) _ _)))); first | walk1 | (dsimp only; walk1)) | (leave1; walk_say "STEP leave1"; try dsimp only) | fail "no step"))
    walk_at "fort"
    (repeat' (first | (k_unfold; (try dsimp only)) | (k_end; wrow_close) | ((((fail_if_success (with_reducible show wpAny _ _ (PySem.exec (Stmt.While _ _ _ _) _) _ _ _)); (fail_if_success (with_reducible show wpAny _ _ (PySem.exec (Stmt.For _ _ _ _ _) _) _ _ _)); (fail_if_success (with_reducible show wpAny _ _ (pyIter (Value.ref _)) (fun it s₂ => LoopAtV _ _ _ _ _ _ _ _ _ it s₂) _ _)); (fail_if_success (with_reducible show wpAny _ _ (pyIter (Value.ref _)) (fun it s₂ => PairAt3 _ _ _ _ _ _ _ _ _ _ it s₂) _ _)))); first | walk1 | (dsimp only; walk1)) | (leave1; walk_say "STEP leave1"; try dsimp only) | fail "no step"))
    (with_unfolding_all refine' call_enumL (by assumption) (by assumption) ?hm ?_)
    case hm => k_memK
    intro h2' it2 F2' N2' he2 hit2 hlt2 hLt2
    (repeat' (first | (k_unfold; (try dsimp only)) | (k_end; wrow_close) | ((((fail_if_success (with_reducible show wpAny _ _ (PySem.exec (Stmt.While _ _ _ _) _) _ _ _)); (fail_if_success (with_reducible show wpAny _ _ (PySem.exec (Stmt.For _ _ _ _ _) _) _ _ _)); (fail_if_success (with_reducible show wpAny _ _ (pyIter (Value.ref _)) (fun it s₂ => LoopAtV _ _ _ _ _ _ _ _ _ it s₂) _ _)); (fail_if_success (with_reducible show wpAny _ _ (pyIter (Value.ref _)) (fun it s₂ => PairAt3 _ _ _ _ _ _ _ _ _ _ it s₂) _ _)))); first | walk1 | (dsimp only; walk1)) | (leave1; walk_say "STEP leave1"; try dsimp only) | fail "no step"))
    (with_unfolding_all refine' kst_enum (σ := List Value × List Int × Nat × Int × Nat) (fun c => (fa, listOf c.1.toArray c.2.2.1) :: (a2, listOf us2.toArray n2) :: (a1, listOf us1.toArray n1) :: (news ++ own)) (fun c => [(Str.ofString "carry", Value.int c.2.2.2.1 c.2.2.2.2)]) (fun c => IntsAre c.1 c.2.1) [Str.ofString "spot"] (fun pre2 c => c.2.1.length = xs.length + ys.length ∧ RowInv (2 ^ wd.toNat) ys pre.length (val (2 ^ wd.toNat) f) n pre2.length c.2.2.2.1 c.2.1) ⟨us, f, kf, 0, _⟩ rfl he2 hit2 ?hlt hLt2 rfl (by decide) (by intro c p hp; rw [List.mem_singleton.mp hp]; exact (by decide : Str.ofString "carry" ≠ Str.ofString "spot")) ?hl hi2 F2' N2' hfacts ?hk ?hp ?_ ?_)
    case hlt => exact hlt2
    case hl => intro c; exact .tail _ (.head _)
    case hk => kst_all
    case hp => exact ⟨hfl, row_start (base_pos _) hinv⟩
    · rintro ⟨us', f', kf', cc, ct⟩ pre2 post2 n2' t2 ti2 u2 h3 tk3 own2 he2' hoff2 hfacts2 ⟨hfl2, hinv2⟩ kFr2 kNews2
      (try dsimp only [kstB] at kFr2); (try dsimp only at kFr2); dsimp only at hfacts2 hfl2 hinv2 kNews2
      simp only [List.cons_append] at kNews2
      have hn2 := at_pre he2'
      have hnb2 := hL2 n2' (by rw [he2']; simp)
      (with_reducible show wpAny _ _ _ _ _ _)
      k_fold
      (repeat' (first | (k_unfold; (try dsimp only)) | (k_end; wrow_close) | ((((fail_if_success (with_reducible show wpAny _ _ (PySem.exec (Stmt.While _ _ _ _) _) _ _ _)); (fail_if_success (with_reducible show wpAny _ _ (PySem.exec (Stmt.For _ _ _ _ _) _) _ _ _)); (fail_if_success (with_reducible show wpAny _ _ (pyIter (Value.ref _)) (fun it s₂ => LoopAtV _ _ _ _ _ _ _ _ _ it s₂) _ _)); (fail_if_success (with_reducible show wpAny _ _ (pyIter (Value.ref _)) (fun it s₂ => PairAt3 _ _ _ _ _ _ _ _ _ _ it s₂) _ _)))); first | walk1 | (dsimp only; walk1)) | (leave1; walk_say "STEP leave1"; try dsimp only) | fail "no step"))
    rintro ⟨us', f', kf', cc, ct⟩ u2 h3 tk3 hfacts2 ⟨hfl2, hinv2⟩ kFr2 kNews2
    (try dsimp only [kstB] at kFr2); (try dsimp only at kFr2); dsimp only at hfacts2 hfl2 hinv2 kNews2
    (try simp only [List.cons_append] at kNews2)
    (with_reducible show wpAny _ _ _ _ _ _)
    (repeat' (first | (k_unfold; (try dsimp only)) | (k_end; wrow_close) | ((((fail_if_success (with_reducible show wpAny _ _ (PySem.exec (Stmt.While _ _ _ _) _) _ _ _)); (fail_if_success (with_reducible show wpAny _ _ (PySem.exec (Stmt.For _ _ _ _ _) _) _ _ _)); (fail_if_success (with_reducible show wpAny _ _ (pyIter (Value.ref _)) (fun it s₂ => LoopAtV _ _ _ _ _ _ _ _ _ it s₂) _ _)); (fail_if_success (with_reducible show wpAny _ _ (pyIter (Value.ref _)) (fun it s₂ => PairAt3 _ _ _ _ _ _ _ _ _ _ it s₂) _ _)))); first | walk1 | (dsimp only; walk1)) | (leave1; walk_say "STEP leave1"; try dsimp only) | fail "no step"))
  rintro ⟨us, f, kf⟩ u h tk hfacts ⟨hfl, hinv⟩ kFr kNews
  (try dsimp only [kstB] at kFr); (try dsimp only at kFr); dsimp only at hfacts hfl hinv kNews
  (repeat' (first | (k_unfold; (try dsimp only)) | (k_end; wrow_close) | ((((fail_if_success (with_reducible show wpAny _ _ (PySem.exec (Stmt.While _ _ _ _) _) _ _ _)); (fail_if_success (with_reducible show wpAny _ _ (PySem.exec (Stmt.For _ _ _ _ _) _) _ _ _)); (fail_if_success (with_reducible show wpAny _ _ (pyIter (Value.ref _)) (fun it s₂ => LoopAtV _ _ _ _ _ _ _ _ _ it s₂) _ _)); (fail_if_success (with_reducible show wpAny _ _ (pyIter (Value.ref _)) (fun it s₂ => PairAt3 _ _ _ _ _ _ _ _ _ _ it s₂) _ _)))); first | walk1 | (dsimp only; walk1)) | (leave1; walk_say "STEP leave1"; try dsimp only) | fail "no step"))
  have hend := mul_done hg1 hg2 hinv
  ((refine' keeps_use (d := ⟨wd, _⟩) normal_ok ?k1 ?k2 ?k3 ?k4 ?k5 ?kK ?kR ?ko ?kd ?ku ?_); (case k1 => k_asm); (case k2 => k_asm); (case k3 => k_asm); (case k4 => k_asm); (case k5 => k_asm); (case kK => first | exact rfl | assumption); (case kR => exact ⟨_, rfl, _, _, _, rfl, by k_memK, by assumption⟩); (case ko => exact ⟨hw1, by dsimp only; omega, hend.1⟩); (case kd => first | ((simp only [normalC, depth_deeper, depth_in1, depth_under_make, depth_under_kw]); (try dsimp only [ktrTop]); omega) | decide +kernel); (case ku => first | ((simp only [normalC, units_deeper, units_in1, Around.mark_units]); (try dsimp only [ktrTop]); omega) | decide +kernel); (intro r9 tl9 h9 tk9 F' N' hl9 ho9); (obtain ⟨a9, us9, k9, xs9, e1, e2, hi9, hg9⟩ := ho9); (subst e1; subst e2); (simp only [List.cons_append, List.nil_append] at N'); (have l1 := lt_of_one hl9); (try simp only [AllLt, and_true] at l1); (clear hl9); (try dsimp only at hg9); (have hL9 := hg9.1))
  (try dsimp only at hg9)
  rw [hend.2] at hg9
  (repeat' (first | (k_unfold; (try dsimp only)) | (k_end; wrow_close) | ((((fail_if_success (with_reducible show wpAny _ _ (PySem.exec (Stmt.While _ _ _ _) _) _ _ _)); (fail_if_success (with_reducible show wpAny _ _ (PySem.exec (Stmt.For _ _ _ _ _) _) _ _ _)); (fail_if_success (with_reducible show wpAny _ _ (pyIter (Value.ref _)) (fun it s₂ => LoopAtV _ _ _ _ _ _ _ _ _ it s₂) _ _)); (fail_if_success (with_reducible show wpAny _ _ (pyIter (Value.ref _)) (fun it s₂ => PairAt3 _ _ _ _ _ _ _ _ _ _ it s₂) _ _)))); first | walk1 | (dsimp only; walk1)) | (leave1; walk_say "STEP leave1"; try dsimp only) | fail "no step"))
  (
    (rename News _ _ _ _ => kN9)
    (try simp only [List.push_toArray] at kN9)
    (refine' hret _ [(_, listOf (List.toArray _) _)] _ _ (by assumption) (made_one kN9 ?hin ?hsub) (ord_one ?hlt) ⟨_, _, _, _, rfl, rfl, ?hi, ?hd⟩)
    case hin => k_memK
    case hsub => (intro p9 h9; kst_mem)
    case hlt => (first | assumption | exact allLt_of (by assumption) | exact lt_app (by assumption) | exact And.right (by assumption) | exact lt_app (And.right (by assumption)) | exact And.right (And.right (by assumption)) | exact lt_app (And.right (And.right (by assumption))) | exact And.right (And.right (And.right (by assumption))) | exact lt_app (And.right (And.right (And.right (by assumption)))) | exact And.right (And.right (And.right (And.right (by assumption)))) | exact lt_app (And.right (And.right (And.right (And.right (by assumption))))) | exact And.right (And.right (And.right (And.right (And.right (by assumption))))) | exact lt_app (And.right (And.right (And.right (And.right (And.right (by assumption)))))) | exact And.right (And.right (And.right (And.right (And.right (And.right (by assumption)))))) | exact lt_app (And.right (And.right (And.right (And.right (And.right (And.right (by assumption))))))) | exact And.right (And.right (And.right (And.right (And.right (And.right (And.right (by assumption))))))) | exact lt_app (And.right (And.right (And.right (And.right (And.right (And.right (And.right (by assumption)))))))) | exact And.right (And.right (And.right (And.right (And.right (And.right (And.right (And.right (by assumption)))))))) | exact lt_app (And.right (And.right (And.right (And.right (And.right (And.right (And.right (And.right (by assumption))))))))) | exact And.right (And.right (And.right (And.right (And.right (And.right (And.right (And.right (And.right (by assumption))))))))) | exact lt_app (And.right (And.right (And.right (And.right (And.right (And.right (And.right (And.right (And.right (by assumption)))))))))) | exact And.right (And.right (And.right (And.right (And.right (And.right (And.right (And.right (And.right (And.right (by assumption)))))))))) | exact lt_app (And.right (And.right (And.right (And.right (And.right (And.right (And.right (And.right (And.right (And.right (by assumption))))))))))) | exact And.right (And.right (And.right (And.right (And.right (And.right (And.right (And.right (And.right (And.right (And.right (by assumption))))))))))) | exact lt_app (And.right (And.right (And.right (And.right (And.right (And.right (And.right (And.right (And.right (And.right (And.right (by assumption)))))))))))) | exact And.right (And.right (And.right (And.right (And.right (And.right (And.right (And.right (And.right (And.right (And.right (And.right (by assumption)))))))))))) | exact lt_app (And.right (And.right (And.right (And.right (And.right (And.right (And.right (And.right (And.right (And.right (And.right (And.right (by assumption))))))))))))) | exact And.right (And.right (And.right (And.right (And.right (And.right (And.right (And.right (And.right (And.right (And.right (And.right (And.right (by assumption))))))))))))) | exact lt_app (And.right (And.right (And.right (And.right (And.right (And.right (And.right (And.right (And.right (And.right (And.right (And.right (And.right (by assumption)))))))))))))) | exact And.right (And.right (And.right (And.right (And.right (And.right (And.right (And.right (And.right (And.right (And.right (And.right (And.right (And.right (by assumption)))))))))))))) | exact lt_app (And.right (And.right (And.right (And.right (And.right (And.right (And.right (And.right (And.right (And.right (And.right (And.right (And.right (And.right (by assumption))))))))))))))) | exact And.right (And.right (And.right (And.right (And.right (And.right (And.right (And.right (And.right (And.right (And.right (And.right (And.right (And.right (And.right (by assumption))))))))))))))) | exact lt_app (And.right (And.right (And.right (And.right (And.right (And.right (And.right (And.right (And.right (And.right (And.right (And.right (And.right (And.right (And.right (by assumption)))))))))))))))) | exact And.right (And.right (And.right (And.right (And.right (And.right (And.right (And.right (And.right (And.right (And.right (And.right (And.right (And.right (And.right (And.right (by assumption)))))))))))))))) | exact lt_app (And.right (And.right (And.right (And.right (And.right (And.right (And.right (And.right (And.right (And.right (And.right (And.right (And.right (And.right (And.right (And.right (by assumption))))))))))))))))))
    case hi => first | exact .nil | assumption | kst_facts
    case hd => exact hg9)
end
/- part greedy -/
section
structure GrS where
  a : Addr
  us : List Value
  k : Nat
  xs : List Int
  b : Addr
  us2 : List Value
  k2 : Nat
noncomputable abbrev grDyn (c : GrS) : List (Addr × Obj) := [(c.a, listOf c.us.toArray c.k), (c.b, listOf c.us2.toArray c.k2)]
noncomputable abbrev grPs (c : GrS) : List (Str × Value) := [(Str.ofString "left", .ref c.a), (Str.ofString "found", .ref c.b)]
noncomputable def GrInv (w n : Int) (news : List (Addr × Obj)) (i : Nat) (c : GrS) : Prop := AllLt c.b news ∧ IntsAre c.us c.xs ∧ Dg (2 ^ w.toNat) c.xs (gRun n i).1 ∧ IntsAre c.us2 (gRun n i).2
theorem gr_end {h₀ h' : Heap} {L : Addr} {s : Shared} {x : Str} {stored : List Str} {m₀ m' : Str → Option Value} {tk : Nat} {base own news news' : List (Addr × Obj)} {w n : Int} {i : Nat}
    {a b : Addr} {us us2 : List Value} {k k2 : Nat} {xs ys : List Int}
    (F : Fr h₀ L h' m') (N : News h₀ L h' news') (h1 : m' (Str.ofString "left") = some (.ref a)) (h2 : m' (Str.ofString "found") = some (.ref b)) (m1 : (a, listOf us.toArray k) ∈ news') (m2 : (b, listOf us2.toArray k2) ∈ news')
    (hs : ∀ q ∈ base, q ∈ news') (ho : ∀ q ∈ own, q ∈ news') (i1 : IntsAre us xs) (i2 : IntsAre us2 ys) (hr : ∀ z, z ≠ x → z ≠ Str.ofString "left" → z ≠ Str.ofString "found" → stored.contains z = false → m' z = m₀ z)
    (e2 : ys = (gRun n (i + 1)).2) (d1 : Dg (2 ^ w.toNat) xs (gRun n (i + 1)).1) (ll : AllLt b news) :
    TurnE h₀ L (fun c => grDyn c ++ base) grPs x stored m₀ (GrInv w n news (i + 1)) own s { s with heap := h', toks := tk } :=
  turn_end ⟨a, us, k, xs, b, us2, k2⟩ F N (by
    intro q hq
    rcases List.mem_cons.mp hq with e | hq
    · rw [e]; exact m1
    · rcases List.mem_cons.mp hq with e | hq
      · rw [e]; exact m2
      · exact hs q hq) ho (by
    intro q hq
    rcases List.mem_cons.mp hq with e | hq
    · rw [e]; exact h1
    · rw [List.mem_singleton.mp hq]; exact h2) (fun z hx hz hc => hr z hx (hz _ (.head _)) (hz _ (.tail _ (.head _))) hc) ⟨ll, i1, d1, e2 ▸ i2⟩
theorem gr_place {i : Nat} (h : i < 9) : (10 - (i : Int)).toNat = 10 - i := by omega
theorem gr_take {n : Int} {i : Nat} (h : fibZ (10 - i) ≤ (gRun n i).1) : gRun n (i + 1) = ((gRun n i).1 - fibZ (10 - i), ((10 - i : Nat) : Int) :: (gRun n i).2) := by
  show gStep (10 - i) (gRun n i) = _
  unfold gStep; rw [if_pos h]
theorem gr_skip {n : Int} {i : Nat} (h : ¬ fibZ (10 - i) ≤ (gRun n i).1) : gRun n (i + 1) = gRun n i := by
  show gStep (10 - i) (gRun n i) = _
  unfold gStep; rw [if_neg h]
theorem gr_facts {n : Int} (h0 : 0 ≤ n) (h1 : n ≤ 50) : (gRun n 9).1 = 0 ∧ ∀ i, i < 10 → 0 ≤ (gRun n i).1 ∧ (gRun n i).1 ≤ 50 ∧ (gRun n i).2.length ≤ i := by
  have h := gRun_facts ⟨n.toNat, by omega⟩
  have e1 : ((n.toNat : Nat) : Int) = n := by omega
  simp only [e1] at h
  exact ⟨h.1, fun i hi => h.2 ⟨i, hi⟩⟩
theorem fib_lt : ∀ k : Fin 11, 0 ≤ fibZ k.1 ∧ fibZ k.1 ≤ 55 := by decide +kernel
local macro_rules | `(tactic| walk_at "call builtin:len") => `(tactic| (k_here; (with_reducible show wpAny _ _ (PySem.call (Value.builtin "len") [Value.ref _]) _ _ _); k_dflt (refine' kst_len ?k1 ?k2 ?k3 ?k4 ?_; (case k1 => k_asm); (case k2 => k_memK); (case k3 => assumption); (case k4 => decide); k_whole)))
local macro_rules | `(tactic| walk_at "subscriptTail Name Name ref int") => `(tactic| (k_here; (with_reducible show wpAny _ _ (subscriptTail _ _ (Value.ref _) (Value.int _ _)) _ _ _); (with_unfolding_all refine' sub_told ?k1 ?kf ?kb ?kl ?k2 ?k3 ?k4 ?_ ?k5; (case k1 => k_asm); (case kf => assumption); (case kb => (intro p9 h9; kst_mem)); (case kl => assumption); (case k2 => k_memK); (case k3 => omega); (case k4 => omega); (case k5 => with_unfolding_all rfl); k_whole); (intro a7 us7 kk7 xs7 N' hi7 hg7)))
local macro_rules | `(tactic| walk_at "TurnP") => `(tactic| (dsimp only [TurnP]))
theorem greedy_ok : Keeps 137 greedyC := by
  w_top off
  unfold Keeps
  k_fill
  intro w mean mg mb d dp un gd cn cs a ccd cl outer A₀ base h₀ L m news s vs Q E B F X N T hk hR hok hd hu hret
  obtain ⟨wd, dm⟩ := d
  obtain ⟨vt, tn, tw, rfl, at0, vs0, k0, rfl, hmt, hlen, hfs⟩ := hR
  dsimp only [greedyC] at hok hd hu hret hmt hlen hfs ⊢
  obtain ⟨hw1, hw2, hx0, hx1⟩ := hok
  have hB := base_ge hw1
  have hgf := gr_facts hx0 hx1
  refine wpAny_call ?_
  k_dflt ktr_enter
  have kMark := kstMark
  rename_i N' _ _ _
  have N2 := news_at N' hmt
  clear N'
  k_with_none
  (repeat' (first | (k_unfold; (try dsimp only)) | (k_end; wrow_close) | (k_here; (with_reducible show wpAny _ _ (PySem.call (Value.ref 123) _) _ _ _); (refine keeps_use (d := ⟨_, _⟩) limbs_ok (by k_asm) (by k_asm) (by k_asm) (by k_asm) (by k_asm) (by first | exact rfl | assumption) (by exact ⟨_, _, (by exact rfl)⟩) (by (refine ⟨?_, ?_, ?_, ?_⟩ <;> (try dsimp only) <;> omega)) (by first | ((simp only [limbsC, depth_deeper, depth_in1, depth_under_make, depth_under_kw]); (try dsimp only [ktrTop]); omega) | decide +kernel) (by first | ((simp only [limbsC, units_deeper, units_in1, Around.mark_units]); (try dsimp only [ktrTop]); omega) | decide +kernel) ?_); (intro r9 tl9 h9 tk9 F' N' hl9 ho9); (obtain ⟨a9, us9, k9, xs9, e1, e2, hi9, hg9⟩ := ho9); (subst e1; subst e2); (simp only [List.cons_append, List.nil_append] at N'); (have l1 := lt_of_one hl9); (try simp only [AllLt, and_true] at l1); (clear hl9); (try dsimp only at hg9); (have hL9 := hg9.1)) | (k_here; (with_reducible show wpAny _ _ (PySem.call (Value.ref 67) _) _ _ _); (refine' keeps_use (d := ⟨_, _, _⟩) sub_ok ?k1 ?k2 ?k3 ?k4 ?k5 ?kK ?kR ?ko ?kd ?ku ?_); (case k1 => k_asm); (case k2 => k_asm); (case k3 => k_asm); (case k4 => k_asm); (case k5 => k_asm); (case kK => first | exact rfl | assumption); (case kR => exact ⟨_, _, _, (by exact rfl), ⟨_, _, _, _, (by exact rfl), by k_memK, by assumption, by assumption⟩, ⟨_, _, _, _, (by exact rfl), by k_memK, by assumption, by assumption⟩⟩); (case ko => (refine ⟨?_, ?_, ?_, ?_⟩ <;> (try dsimp only) <;> omega)); (case kd => first | ((simp only [subC, depth_deeper, depth_in1, depth_under_make, depth_under_kw]); (try dsimp only [ktrTop]); omega) | decide +kernel); (case ku => first | ((simp only [subC, units_deeper, units_in1, Around.mark_units]); (try dsimp only [ktrTop]); omega) | decide +kernel); (intro r9 tl9 h9 tk9 F' N' hl9 ho9); (obtain ⟨a9, us9, k9, xs9, e1, e2, hi9, hg9⟩ := ho9); (subst e1; subst e2); (simp only [List.cons_append, List.nil_append] at N'); (have l1 := lt_of_one hl9); (try simp only [AllLt, and_true] at l1); (clear hl9); (try dsimp only at hg9); (have hL9 := hg9.1)) | (k_here; (with_reducible show wpAny _ _ (PySem.call (Value.ref 53) _) _ _ _); (refine' keeps_use (d := ⟨_, _, _⟩) compare_ok ?k1 ?k2 ?k3 ?k4 ?k5 ?kK ?kR ?ko ?kd ?ku ?_); (case k1 => k_asm); (case k2 => k_asm); (case k3 => k_asm); (case k4 => k_asm); (case k5 => k_asm); (case kK => first | exact rfl | assumption); (case kR => exact ⟨_, _, (by exact rfl), ⟨_, _, _, _, (by exact rfl), by k_memK, by assumption, by assumption⟩, ⟨_, _, _, _, (by exact rfl), by k_memK, by assumption, by assumption⟩⟩); (case ko => (refine ⟨?_, ?_, ?_⟩ <;> (try dsimp only) <;> omega)); (case kd => first | ((simp only [compareC, depth_deeper, depth_in1, depth_under_make, depth_under_kw]); (try dsimp only [ktrTop]); omega) | decide +kernel); (case ku => first | ((simp only [compareC, units_deeper, units_in1, Around.mark_units]); (try dsimp only [ktrTop]); omega) | decide +kernel); (intro r9 tl9 h9 tk9 F' N' hl9 ho9); (obtain ⟨e2, t9, e1⟩ := ho9); (subst e1; subst e2); (simp only [List.nil_append] at N'); (clear hl9); (try dsimp only)) | ((((fail_if_success (with_reducible show wpAny _ _ (PySem.exec (Stmt.While _ _ _ _) _) _ _ _)); (fail_if_success (with_reducible show wpAny _ _ (PySem.exec (Stmt.For _ _ _ _ _) _) _ _ _)); (fail_if_success (with_reducible show wpAny _ _ (pyIter (Value.ref _)) (fun it s₂ => LoopAtV _ _ _ _ _ _ _ _ _ it s₂) _ _)); (fail_if_success (with_reducible show wpAny _ _ (pyIter (Value.ref _)) (fun it s₂ => PairAt3 _ _ _ _ _ _ _ _ _ _ it s₂) _ _)))); first | walk1 | (dsimp only; walk1)) | (leave1; walk_say "STEP leave1"; try dsimp only) | fail "no step"))
  walk_at "for"
  (repeat' (first | (k_unfold; (try dsimp only)) | (k_end; wrow_close) | (k_here; (with_reducible show wpAny _ _ (PySem.call (Value.ref 123) _) _ _ _); (refine keeps_use (d := ⟨_, _⟩) limbs_ok (by k_asm) (by k_asm) (by k_asm) (by k_asm) (by k_asm) (by first | exact rfl | assumption) (by exact ⟨_, _, (by exact rfl)⟩) (by (refine ⟨?_, ?_, ?_, ?_⟩ <;> (try dsimp only) <;> omega)) (by first | ((simp only [limbsC, depth_deeper, depth_in1, depth_under_make, depth_under_kw]); (try dsimp only [ktrTop]); omega) | decide +kernel) (by first | ((simp only [limbsC, units_deeper, units_in1, Around.mark_units]); (try dsimp only [ktrTop]); omega) | decide +kernel) ?_); (intro r9 tl9 h9 tk9 F' N' hl9 ho9); (obtain ⟨a9, us9, k9, xs9, e1, e2, hi9, hg9⟩ := ho9); (subst e1; subst e2); (simp only [List.cons_append, List.nil_append] at N'); (have l1 := lt_of_one hl9); (try simp only [AllLt, and_true] at l1); (clear hl9); (try dsimp only at hg9); (have hL9 := hg9.1)) | (k_here; (with_reducible show wpAny _ _ (PySem.call (Value.ref 67) _) _ _ _); (refine' keeps_use (d := ⟨_, _, _⟩) sub_ok ?k1 ?k2 ?k3 ?k4 ?k5 ?kK ?kR ?ko ?kd ?ku ?_); (case k1 => k_asm); (case k2 => k_asm); (case k3 => k_asm); (case k4 => k_asm); (case k5 => k_asm); (case kK => first | exact rfl | assumption); (case kR => exact ⟨_, _, _, (by exact rfl), ⟨_, _, _, _, (by exact rfl), by k_memK, by assumption, by assumption⟩, ⟨_, _, _, _, (by exact rfl), by k_memK, by assumption, by assumption⟩⟩); (case ko => (refine ⟨?_, ?_, ?_, ?_⟩ <;> (try dsimp only) <;> omega)); (case kd => first | ((simp only [subC, depth_deeper, depth_in1, depth_under_make, depth_under_kw]); (try dsimp only [ktrTop]); omega) | decide +kernel); (case ku => first | ((simp only [subC, units_deeper, units_in1, Around.mark_units]); (try dsimp only [ktrTop]); omega) | decide +kernel); (intro r9 tl9 h9 tk9 F' N' hl9 ho9); (obtain ⟨a9, us9, k9, xs9, e1, e2, hi9, hg9⟩ := ho9); (subst e1; subst e2); (simp only [List.cons_append, List.nil_append] at N'); (have l1 := lt_of_one hl9); (try simp only [AllLt, and_true] at l1); (clear hl9); (try dsimp only at hg9); (have hL9 := hg9.1)) | (k_here; (with_reducible show wpAny _ _ (PySem.call (Value.ref 53) _) _ _ _); (refine' keeps_use (d := ⟨_, _, _⟩) compare_ok ?k1 ?k2 ?k3 ?k4 ?k5 ?kK ?kR ?ko ?kd ?ku ?_); (case k1 => k_asm); (case k2 => k_asm); (case k3 => k_asm); (case k4 => k_asm); (case k5 => k_asm); (case kK => first | exact rfl | assumption); (case kR => exact ⟨_, _, (by exact rfl), ⟨_, _, _, _, (by exact rfl), by k_memK, by assumption, by assumption⟩, ⟨_, _, _, _, (by exact rfl), by k_memK, by assumption, by assumption⟩⟩); (case ko => (refine ⟨?_, ?_, ?_⟩ <;> (try dsimp only) <;> omega)); (case kd => first | ((simp only [compareC, depth_deeper, depth_in1, depth_under_make, depth_under_kw]); (try dsimp only [ktrTop]); omega) | decide +kernel); (case ku => first | ((simp only [compareC, units_deeper, units_in1, Around.mark_units]); (try dsimp only [ktrTop]); omega) | decide +kernel); (intro r9 tl9 h9 tk9 F' N' hl9 ho9); (obtain ⟨e2, t9, e1⟩ := ho9); (subst e1; subst e2); (simp only [List.nil_append] at N'); (clear hl9); (try dsimp only)) | ((((fail_if_success (with_reducible show wpAny _ _ (PySem.exec (Stmt.While _ _ _ _) _) _ _ _)); (fail_if_success (with_reducible show wpAny _ _ (PySem.exec (Stmt.For _ _ _ _ _) _) _ _ _)); (fail_if_success (with_reducible show wpAny _ _ (pyIter (Value.ref _)) (fun it s₂ => LoopAtV _ _ _ _ _ _ _ _ _ it s₂) _ _)); (fail_if_success (with_reducible show wpAny _ _ (pyIter (Value.ref _)) (fun it s₂ => PairAt3 _ _ _ _ _ _ _ _ _ _ it s₂) _ _)))); first | walk1 | (dsimp only; walk1)) | (leave1; walk_say "STEP leave1"; try dsimp only) | fail "no step"))
  rename_i lb _ hlb _ _ _ _ _ _ _ _ _ _ _ _ _ _ _ _ _
  (rename Fr _ _ _ _ => F1)
  (rename News _ _ _ _ => N1)
  (rename IsRange _ _ _ _ _ _ _ _ => rg1)
  (with_unfolding_all refine' for_range2 (σ := GrS) (n := 9) grDyn ((at0, listOf vs0.toArray k0) :: news) grPs [] (fun i => 10 - (i : Int)) (GrInv wd dm news) ⟨a9, us9, k9, xs9, lb, [], 0⟩ ?hkf rfl rg1 ?hsm ?hsz F1 ?hN ?hk ?hp ?hc ?_ ?_)
  case hkf => (intro i hi; omega)
  case hsm => decide
  case hsz => rfl
  case hN => exact news_sub N1 (fun p hp => List.Mem.tail _ (by
    rcases List.mem_cons.mp hp with e | hp
    · rw [e]; exact .tail _ (.head _)
    · rcases List.mem_cons.mp hp with e | hp
      · rw [e]; exact .head _
      · exact .tail _ (.tail _ hp)))
  case hk => kst_all
  case hp => exact ⟨by (first | assumption | exact allLt_of (by assumption) | exact lt_app (by assumption) | exact And.right (by assumption) | exact lt_app (And.right (by assumption)) | exact And.right (And.right (by assumption)) | exact lt_app (And.right (And.right (by assumption))) | exact And.right (And.right (And.right (by assumption))) | exact lt_app (And.right (And.right (And.right (by assumption)))) | exact And.right (And.right (And.right (And.right (by assumption)))) | exact lt_app (And.right (And.right (And.right (And.right (by assumption))))) | exact And.right (And.right (And.right (And.right (And.right (by assumption))))) | exact lt_app (And.right (And.right (And.right (And.right (And.right (by assumption)))))) | exact And.right (And.right (And.right (And.right (And.right (And.right (by assumption)))))) | exact lt_app (And.right (And.right (And.right (And.right (And.right (And.right (by assumption))))))) | exact And.right (And.right (And.right (And.right (And.right (And.right (And.right (by assumption))))))) | exact lt_app (And.right (And.right (And.right (And.right (And.right (And.right (And.right (by assumption)))))))) | exact And.right (And.right (And.right (And.right (And.right (And.right (And.right (And.right (by assumption)))))))) | exact lt_app (And.right (And.right (And.right (And.right (And.right (And.right (And.right (And.right (by assumption))))))))) | exact And.right (And.right (And.right (And.right (And.right (And.right (And.right (And.right (And.right (by assumption))))))))) | exact lt_app (And.right (And.right (And.right (And.right (And.right (And.right (And.right (And.right (And.right (by assumption)))))))))) | exact And.right (And.right (And.right (And.right (And.right (And.right (And.right (And.right (And.right (And.right (by assumption)))))))))) | exact lt_app (And.right (And.right (And.right (And.right (And.right (And.right (And.right (And.right (And.right (And.right (by assumption))))))))))) | exact And.right (And.right (And.right (And.right (And.right (And.right (And.right (And.right (And.right (And.right (And.right (by assumption))))))))))) | exact lt_app (And.right (And.right (And.right (And.right (And.right (And.right (And.right (And.right (And.right (And.right (And.right (by assumption)))))))))))) | exact And.right (And.right (And.right (And.right (And.right (And.right (And.right (And.right (And.right (And.right (And.right (And.right (by assumption)))))))))))) | exact lt_app (And.right (And.right (And.right (And.right (And.right (And.right (And.right (And.right (And.right (And.right (And.right (And.right (by assumption))))))))))))) | exact And.right (And.right (And.right (And.right (And.right (And.right (And.right (And.right (And.right (And.right (And.right (And.right (And.right (by assumption))))))))))))) | exact lt_app (And.right (And.right (And.right (And.right (And.right (And.right (And.right (And.right (And.right (And.right (And.right (And.right (And.right (by assumption)))))))))))))) | exact And.right (And.right (And.right (And.right (And.right (And.right (And.right (And.right (And.right (And.right (And.right (And.right (And.right (And.right (by assumption)))))))))))))) | exact lt_app (And.right (And.right (And.right (And.right (And.right (And.right (And.right (And.right (And.right (And.right (And.right (And.right (And.right (And.right (by assumption))))))))))))))) | exact And.right (And.right (And.right (And.right (And.right (And.right (And.right (And.right (And.right (And.right (And.right (And.right (And.right (And.right (And.right (by assumption))))))))))))))) | exact lt_app (And.right (And.right (And.right (And.right (And.right (And.right (And.right (And.right (And.right (And.right (And.right (And.right (And.right (And.right (And.right (by assumption)))))))))))))))) | exact And.right (And.right (And.right (And.right (And.right (And.right (And.right (And.right (And.right (And.right (And.right (And.right (And.right (And.right (And.right (And.right (by assumption)))))))))))))))) | exact lt_app (And.right (And.right (And.right (And.right (And.right (And.right (And.right (And.right (And.right (And.right (And.right (And.right (And.right (And.right (And.right (And.right (by assumption)))))))))))))))))), hi9, hg9, .nil⟩
  case hc =>
    intro i c hP p hp
    rcases List.mem_cons.mp hp with e | hp
    · rw [e]; exact fun q => absurd q.1 (by decide : Value.type "list" ≠ Value.type "range_iterator")
    · rw [List.mem_singleton.mp hp]; exact fun q => absurd q.1 (by decide : Value.type "list" ≠ Value.type "range_iterator")
  · rintro ⟨a, us, k, xs, b, us2, k2⟩ i t u h tk2 own hi ⟨q1, i1, d1, i2⟩ _ kFr kNews
    (try dsimp only [kstB, grPs] at kFr); (try dsimp only [grDyn] at kNews); (try simp only [List.cons_append, List.nil_append] at kNews); dsimp only at q1 i1 d1 i2
    have hpl := gr_place hi
    have hgi := hgf.2 i (by omega)
    have hfb : 0 ≤ fibZ (10 - (i : Int)).toNat ∧ fibZ (10 - (i : Int)).toNat ≤ 55 := by rw [hpl]; exact fib_lt ⟨10 - i, by omega⟩
    have hcg := cmp_ge (m := (gRun dm i).1) (n := fibZ (10 - (i : Int)).toNat)
    generalize hr1 : (gRun dm i).1 = r at d1 hgi hcg
    generalize hr2 : (gRun dm i).2 = gl at i2 hgi
    (with_reducible show wpAny _ _ _ _ _ _)
    k_fold
    (repeat' (first | (k_unfold; (try dsimp only)) | (k_end; wrow_close) | (k_here; (with_reducible show wpAny _ _ (PySem.call (Value.ref 123) _) _ _ _); (refine keeps_use (d := ⟨_, _⟩) limbs_ok (by k_asm) (by k_asm) (by k_asm) (by k_asm) (by k_asm) (by first | exact rfl | assumption) (by exact ⟨_, _, (by exact rfl)⟩) (by (refine ⟨?_, ?_, ?_, ?_⟩ <;> (try dsimp only) <;> omega)) (by first | ((simp only [limbsC, depth_deeper, depth_in1, depth_under_make, depth_under_kw]); (try dsimp only [ktrTop]); omega) | decide +kernel) (by first | ((simp only [limbsC, units_deeper, units_in1, Around.mark_units]); (try dsimp only [ktrTop]); omega) | decide +kernel) ?_); (intro r9 tl9 h9 tk9 F' N' hl9 ho9); (obtain ⟨a9, us9, k9, xs9, e1, e2, hi9, hg9⟩ := ho9); (subst e1; subst e2); (simp only [List.cons_append, List.nil_append] at N'); (have l1 := lt_of_one hl9); (try simp only [AllLt, and_true] at l1); (clear hl9); (try dsimp only at hg9); (have hL9 := hg9.1)) | (k_here; (with_reducible show wpAny _ _ (PySem.call (Value.ref 67) _) _ _ _); (refine' keeps_use (d := ⟨_, _, _⟩) sub_ok ?k1 ?k2 ?k3 ?k4 ?k5 ?kK ?kR ?ko ?kd ?ku ?_); (case k1 => k_asm); (case k2 => k_asm); (case k3 => k_asm); (case k4 => k_asm); (case k5 => k_asm); (case kK => first | exact rfl | assumption); (case kR => exact ⟨_, _, _, (by exact rfl), ⟨_, _, _, _, (by exact rfl), by k_memK, by assumption, by assumption⟩, ⟨_, _, _, _, (by exact rfl), by k_memK, by assumption, by assumption⟩⟩); (case ko => (refine ⟨?_, ?_, ?_, ?_⟩ <;> (try dsimp only) <;> omega)); (case kd => first | ((simp only [subC, depth_deeper, depth_in1, depth_under_make, depth_under_kw]); (try dsimp only [ktrTop]); omega) | decide +kernel); (case ku => first | ((simp only [subC, units_deeper, units_in1, Around.mark_units]); (try dsimp only [ktrTop]); omega) | decide +kernel); (intro r9 tl9 h9 tk9 F' N' hl9 ho9); (obtain ⟨a9, us9, k9, xs9, e1, e2, hi9, hg9⟩ := ho9); (subst e1; subst e2); (simp only [List.cons_append, List.nil_append] at N'); (have l1 := lt_of_one hl9); (try simp only [AllLt, and_true] at l1); (clear hl9); (try dsimp only at hg9); (have hL9 := hg9.1)) | (k_here; (with_reducible show wpAny _ _ (PySem.call (Value.ref 53) _) _ _ _); (refine' keeps_use (d := ⟨_, _, _⟩) compare_ok ?k1 ?k2 ?k3 ?k4 ?k5 ?kK ?kR ?ko ?kd ?ku ?_); (case k1 => k_asm); (case k2 => k_asm); (case k3 => k_asm); (case k4 => k_asm); (case k5 => k_asm); (case kK => first | exact rfl | assumption); (case kR => exact ⟨_, _, (by exact rfl), ⟨_, _, _, _, (by exact rfl), by k_memK, by assumption, by assumption⟩, ⟨_, _, _, _, (by exact rfl), by k_memK, by assumption, by assumption⟩⟩); (case ko => (refine ⟨?_, ?_, ?_⟩ <;> (try dsimp only) <;> omega)); (case kd => first | ((simp only [compareC, depth_deeper, depth_in1, depth_under_make, depth_under_kw]); (try dsimp only [ktrTop]); omega) | decide +kernel); (case ku => first | ((simp only [compareC, units_deeper, units_in1, Around.mark_units]); (try dsimp only [ktrTop]); omega) | decide +kernel); (intro r9 tl9 h9 tk9 F' N' hl9 ho9); (obtain ⟨e2, t9, e1⟩ := ho9); (subst e1; subst e2); (simp only [List.nil_append] at N'); (clear hl9); (try dsimp only)) | ((((fail_if_success (with_reducible show wpAny _ _ (PySem.exec (Stmt.While _ _ _ _) _) _ _ _)); (fail_if_success (with_reducible show wpAny _ _ (PySem.exec (Stmt.For _ _ _ _ _) _) _ _ _)); (fail_if_success (with_reducible show wpAny _ _ (pyIter (Value.ref _)) (fun it s₂ => LoopAtV _ _ _ _ _ _ _ _ _ it s₂) _ _)); (fail_if_success (with_reducible show wpAny _ _ (pyIter (Value.ref _)) (fun it s₂ => PairAt3 _ _ _ _ _ _ _ _ _ _ it s₂) _ _)))); first | walk1 | (dsimp only; walk1)) | (leave1; walk_say "STEP leave1"; try dsimp only) | fail "no step"))
    · have hle := hcg.1 (by assumption)
      have hst := gr_take (n := dm) (i := i) (by rw [← hpl, hr1]; exact hle)
      have he1 : (gRun dm (i + 1)).1 = r - fibZ (10 - (i : Int)).toNat := by rw [hst, hpl, hr1]
      have he2 : (gRun dm (i + 1)).2 = (10 - (i : Int)) :: gl := by rw [hst, hr2]; exact congrArg (· :: _) (by omega)
      (rename News _ _ _ _ => nE')
      exact gr_end (by assumption) nE' (by with_unfolding_all rfl) (by with_unfolding_all rfl) (by k_memK) (by k_memK) (by intro p9 h9; kst_mem) (by intro p9 h9; kst_mem) (by assumption) (by assumption) (by intro z h1 h2 h3 h4; first | rfl | (simp [h1, h2, h3]; done)) (by rw [he2]; rfl) (by rw [he1]; assumption) (by (first | assumption | exact allLt_of (by assumption) | exact lt_app (by assumption) | exact And.right (by assumption) | exact lt_app (And.right (by assumption)) | exact And.right (And.right (by assumption)) | exact lt_app (And.right (And.right (by assumption))) | exact And.right (And.right (And.right (by assumption))) | exact lt_app (And.right (And.right (And.right (by assumption)))) | exact And.right (And.right (And.right (And.right (by assumption)))) | exact lt_app (And.right (And.right (And.right (And.right (by assumption))))) | exact And.right (And.right (And.right (And.right (And.right (by assumption))))) | exact lt_app (And.right (And.right (And.right (And.right (And.right (by assumption)))))) | exact And.right (And.right (And.right (And.right (And.right (And.right (by assumption)))))) | exact lt_app (And.right (And.right (And.right (And.right (And.right (And.right (by assumption))))))) | exact And.right (And.right (And.right (And.right (And.right (And.right (And.right (by assumption))))))) | exact lt_app (And.right (And.right (And.right (And.right (And.right (And.right (And.right (by assumption)))))))) | exact And.right (And.right (And.right (And.right (And.right (And.right (And.right (And.right (by assumption)))))))) | exact lt_app (And.right (And.right (And.right (And.right (And.right (And.right (And.right (And.right (by assumption))))))))) | exact And.right (And.right (And.right (And.right (And.right (And.right (And.right (And.right (And.right (by assumption))))))))) | exact lt_app (And.right (And.right (And.right (And.right (And.right (And.right (And.right (And.right (And.right (by assumption)))))))))) | exact And.right (And.right (And.right (And.right (And.right (And.right (And.right (And.right (And.right (And.right (by assumption)))))))))) | exact lt_app (And.right (And.right (And.right (And.right (And.right (And.right (And.right (And.right (And.right (And.right (by assumption))))))))))) | exact And.right (And.right (And.right (And.right (And.right (And.right (And.right (And.right (And.right (And.right (And.right (by assumption))))))))))) | exact lt_app (And.right (And.right (And.right (And.right (And.right (And.right (And.right (And.right (And.right (And.right (And.right (by assumption)))))))))))) | exact And.right (And.right (And.right (And.right (And.right (And.right (And.right (And.right (And.right (And.right (And.right (And.right (by assumption)))))))))))) | exact lt_app (And.right (And.right (And.right (And.right (And.right (And.right (And.right (And.right (And.right (And.right (And.right (And.right (by assumption))))))))))))) | exact And.right (And.right (And.right (And.right (And.right (And.right (And.right (And.right (And.right (And.right (And.right (And.right (And.right (by assumption))))))))))))) | exact lt_app (And.right (And.right (And.right (And.right (And.right (And.right (And.right (And.right (And.right (And.right (And.right (And.right (And.right (by assumption)))))))))))))) | exact And.right (And.right (And.right (And.right (And.right (And.right (And.right (And.right (And.right (And.right (And.right (And.right (And.right (And.right (by assumption)))))))))))))) | exact lt_app (And.right (And.right (And.right (And.right (And.right (And.right (And.right (And.right (And.right (And.right (And.right (And.right (And.right (And.right (by assumption))))))))))))))) | exact And.right (And.right (And.right (And.right (And.right (And.right (And.right (And.right (And.right (And.right (And.right (And.right (And.right (And.right (And.right (by assumption))))))))))))))) | exact lt_app (And.right (And.right (And.right (And.right (And.right (And.right (And.right (And.right (And.right (And.right (And.right (And.right (And.right (And.right (And.right (by assumption)))))))))))))))) | exact And.right (And.right (And.right (And.right (And.right (And.right (And.right (And.right (And.right (And.right (And.right (And.right (And.right (And.right (And.right (And.right (by assumption)))))))))))))))) | exact lt_app (And.right (And.right (And.right (And.right (And.right (And.right (And.right (And.right (And.right (And.right (And.right (And.right (And.right (And.right (And.right (And.right (by assumption)))))))))))))))))))
    · have hst := gr_skip (n := dm) (i := i) (by rw [← hpl, hr1]; have := hcg.2 (by assumption); omega)
      (rename News _ _ _ _ => nE')
      exact gr_end (by assumption) nE' (by with_unfolding_all rfl) (by with_unfolding_all rfl) (by k_memK) (by k_memK) (by intro p9 h9; kst_mem) (by intro p9 h9; kst_mem) i1 i2 (by intro z h1 h2 h3 h4; first | rfl | (simp [h1, h2, h3]; done)) (by rw [hst]; exact hr2.symm) (by rw [hst, hr1]; exact d1) (by (first | assumption | exact allLt_of (by assumption) | exact lt_app (by assumption) | exact And.right (by assumption) | exact lt_app (And.right (by assumption)) | exact And.right (And.right (by assumption)) | exact lt_app (And.right (And.right (by assumption))) | exact And.right (And.right (And.right (by assumption))) | exact lt_app (And.right (And.right (And.right (by assumption)))) | exact And.right (And.right (And.right (And.right (by assumption)))) | exact lt_app (And.right (And.right (And.right (And.right (by assumption))))) | exact And.right (And.right (And.right (And.right (And.right (by assumption))))) | exact lt_app (And.right (And.right (And.right (And.right (And.right (by assumption)))))) | exact And.right (And.right (And.right (And.right (And.right (And.right (by assumption)))))) | exact lt_app (And.right (And.right (And.right (And.right (And.right (And.right (by assumption))))))) | exact And.right (And.right (And.right (And.right (And.right (And.right (And.right (by assumption))))))) | exact lt_app (And.right (And.right (And.right (And.right (And.right (And.right (And.right (by assumption)))))))) | exact And.right (And.right (And.right (And.right (And.right (And.right (And.right (And.right (by assumption)))))))) | exact lt_app (And.right (And.right (And.right (And.right (And.right (And.right (And.right (And.right (by assumption))))))))) | exact And.right (And.right (And.right (And.right (And.right (And.right (And.right (And.right (And.right (by assumption))))))))) | exact lt_app (And.right (And.right (And.right (And.right (And.right (And.right (And.right (And.right (And.right (by assumption)))))))))) | exact And.right (And.right (And.right (And.right (And.right (And.right (And.right (And.right (And.right (And.right (by assumption)))))))))) | exact lt_app (And.right (And.right (And.right (And.right (And.right (And.right (And.right (And.right (And.right (And.right (by assumption))))))))))) | exact And.right (And.right (And.right (And.right (And.right (And.right (And.right (And.right (And.right (And.right (And.right (by assumption))))))))))) | exact lt_app (And.right (And.right (And.right (And.right (And.right (And.right (And.right (And.right (And.right (And.right (And.right (by assumption)))))))))))) | exact And.right (And.right (And.right (And.right (And.right (And.right (And.right (And.right (And.right (And.right (And.right (And.right (by assumption)))))))))))) | exact lt_app (And.right (And.right (And.right (And.right (And.right (And.right (And.right (And.right (And.right (And.right (And.right (And.right (by assumption))))))))))))) | exact And.right (And.right (And.right (And.right (And.right (And.right (And.right (And.right (And.right (And.right (And.right (And.right (And.right (by assumption))))))))))))) | exact lt_app (And.right (And.right (And.right (And.right (And.right (And.right (And.right (And.right (And.right (And.right (And.right (And.right (And.right (by assumption)))))))))))))) | exact And.right (And.right (And.right (And.right (And.right (And.right (And.right (And.right (And.right (And.right (And.right (And.right (And.right (And.right (by assumption)))))))))))))) | exact lt_app (And.right (And.right (And.right (And.right (And.right (And.right (And.right (And.right (And.right (And.right (And.right (And.right (And.right (And.right (by assumption))))))))))))))) | exact And.right (And.right (And.right (And.right (And.right (And.right (And.right (And.right (And.right (And.right (And.right (And.right (And.right (And.right (And.right (by assumption))))))))))))))) | exact lt_app (And.right (And.right (And.right (And.right (And.right (And.right (And.right (And.right (And.right (And.right (And.right (And.right (And.right (And.right (And.right (by assumption)))))))))))))))) | exact And.right (And.right (And.right (And.right (And.right (And.right (And.right (And.right (And.right (And.right (And.right (And.right (And.right (And.right (And.right (And.right (by assumption)))))))))))))))) | exact lt_app (And.right (And.right (And.right (And.right (And.right (And.right (And.right (And.right (And.right (And.right (And.right (And.right (And.right (And.right (And.right (And.right (by assumption)))))))))))))))))))
  rintro ⟨a, us, k, xs, b, us2, k2⟩ u h tk2 ⟨q1, i1, d1, i2⟩ kFr kNews
  (try dsimp only [kstB, grPs] at kFr); (try dsimp only [grDyn] at kNews); (try simp only [List.cons_append, List.nil_append] at kNews); dsimp only at q1 i1 d1 i2
  rw [hgf.1] at d1
  have hx := Dg.inj (by omega) d1 (Dg.nil _)
  (repeat' (first | (k_unfold; (try dsimp only)) | (k_end; wrow_close) | (k_here; (with_reducible show wpAny _ _ (PySem.call (Value.ref 123) _) _ _ _); (refine keeps_use (d := ⟨_, _⟩) limbs_ok (by k_asm) (by k_asm) (by k_asm) (by k_asm) (by k_asm) (by first | exact rfl | assumption) (by exact ⟨_, _, (by exact rfl)⟩) (by (refine ⟨?_, ?_, ?_, ?_⟩ <;> (try dsimp only) <;> omega)) (by first | ((simp only [limbsC, depth_deeper, depth_in1, depth_under_make, depth_under_kw]); (try dsimp only [ktrTop]); omega) | decide +kernel) (by first | ((simp only [limbsC, units_deeper, units_in1, Around.mark_units]); (try dsimp only [ktrTop]); omega) | decide +kernel) ?_); (intro r9 tl9 h9 tk9 F' N' hl9 ho9); (obtain ⟨a9, us9, k9, xs9, e1, e2, hi9, hg9⟩ := ho9); (subst e1; subst e2); (simp only [List.cons_append, List.nil_append] at N'); (have l1 := lt_of_one hl9); (try simp only [AllLt, and_true] at l1); (clear hl9); (try dsimp only at hg9); (have hL9 := hg9.1)) | (k_here; (with_reducible show wpAny _ _ (PySem.call (Value.ref 67) _) _ _ _); (refine' keeps_use (d := ⟨_, _, _⟩) sub_ok ?k1 ?k2 ?k3 ?k4 ?k5 ?kK ?kR ?ko ?kd ?ku ?_); (case k1 => k_asm); (case k2 => k_asm); (case k3 => k_asm); (case k4 => k_asm); (case k5 => k_asm); (case kK => first | exact rfl | assumption); (case kR => exact ⟨_, _, _, (by exact rfl), ⟨_, _, _, _, (by exact rfl), by k_memK, by assumption, by assumption⟩, ⟨_, _, _, _, (by exact rfl), by k_memK, by assumption, by assumption⟩⟩); (case ko => (refine ⟨?_, ?_, ?_, ?_⟩ <;> (try dsimp only) <;> omega)); (case kd => first | ((simp only [subC, depth_deeper, depth_in1, depth_under_make, depth_under_kw]); (try dsimp only [ktrTop]); omega) | decide +kernel); (case ku => first | ((simp only [subC, units_deeper, units_in1, Around.mark_units]); (try dsimp only [ktrTop]); omega) | decide +kernel); (intro r9 tl9 h9 tk9 F' N' hl9 ho9); (obtain ⟨a9, us9, k9, xs9, e1, e2, hi9, hg9⟩ := ho9); (subst e1; subst e2); (simp only [List.cons_append, List.nil_append] at N'); (have l1 := lt_of_one hl9); (try simp only [AllLt, and_true] at l1); (clear hl9); (try dsimp only at hg9); (have hL9 := hg9.1)) | (k_here; (with_reducible show wpAny _ _ (PySem.call (Value.ref 53) _) _ _ _); (refine' keeps_use (d := ⟨_, _, _⟩) compare_ok ?k1 ?k2 ?k3 ?k4 ?k5 ?kK ?kR ?ko ?kd ?ku ?_); (case k1 => k_asm); (case k2 => k_asm); (case k3 => k_asm); (case k4 => k_asm); (case k5 => k_asm); (case kK => first | exact rfl | assumption); (case kR => exact ⟨_, _, (by exact rfl), ⟨_, _, _, _, (by exact rfl), by k_memK, by assumption, by assumption⟩, ⟨_, _, _, _, (by exact rfl), by k_memK, by assumption, by assumption⟩⟩); (case ko => (refine ⟨?_, ?_, ?_⟩ <;> (try dsimp only) <;> omega)); (case kd => first | ((simp only [compareC, depth_deeper, depth_in1, depth_under_make, depth_under_kw]); (try dsimp only [ktrTop]); omega) | decide +kernel); (case ku => first | ((simp only [compareC, units_deeper, units_in1, Around.mark_units]); (try dsimp only [ktrTop]); omega) | decide +kernel); (intro r9 tl9 h9 tk9 F' N' hl9 ho9); (obtain ⟨e2, t9, e1⟩ := ho9); (subst e1; subst e2); (simp only [List.nil_append] at N'); (clear hl9); (try dsimp only)) | ((((fail_if_success (with_reducible show wpAny _ _ (PySem.exec (Stmt.While _ _ _ _) _) _ _ _)); (fail_if_success (with_reducible show wpAny _ _ (PySem.exec (Stmt.For _ _ _ _ _) _) _ _ _)); (fail_if_success (with_reducible show wpAny _ _ (pyIter (Value.ref _)) (fun it s₂ => LoopAtV _ _ _ _ _ _ _ _ _ it s₂) _ _)); (fail_if_success (with_reducible show wpAny _ _ (pyIter (Value.ref _)) (fun it s₂ => PairAt3 _ _ _ _ _ _ _ _ _ _ it s₂) _ _)))); first | walk1 | (dsimp only; walk1)) | (leave1; walk_say "STEP leave1"; try dsimp only) | fail "no step"))
  · (rename News _ _ _ _ => kN9)
    (refine' hret _ [(_, listOf (List.toArray _) _)] _ _ (by assumption) (made_one kN9 ?hin ?hsub) (ord_one ?hlt) ⟨_, _, _, rfl, rfl, ?hi⟩)
    case hin => k_memK
    case hsub => (intro p9 h9; kst_mem)
    case hlt => (first | assumption | exact allLt_of (by assumption) | exact lt_app (by assumption) | exact And.right (by assumption) | exact lt_app (And.right (by assumption)) | exact And.right (And.right (by assumption)) | exact lt_app (And.right (And.right (by assumption))) | exact And.right (And.right (And.right (by assumption))) | exact lt_app (And.right (And.right (And.right (by assumption)))) | exact And.right (And.right (And.right (And.right (by assumption)))) | exact lt_app (And.right (And.right (And.right (And.right (by assumption))))) | exact And.right (And.right (And.right (And.right (And.right (by assumption))))) | exact lt_app (And.right (And.right (And.right (And.right (And.right (by assumption)))))) | exact And.right (And.right (And.right (And.right (And.right (And.right (by assumption)))))) | exact lt_app (And.right (And.right (And.right (And.right (And.right (And.right (by assumption))))))) | exact And.right (And.right (And.right (And.right (And.right (And.right (And.right (by assumption))))))) | exact lt_app (And.right (And.right (And.right (And.right (And.right (And.right (And.right (by assumption)))))))) | exact And.right (And.right (And.right (And.right (And.right (And.right (And.right (And.right (by assumption)))))))) | exact lt_app (And.right (And.right (And.right (And.right (And.right (And.right (And.right (And.right (by assumption))))))))) | exact And.right (And.right (And.right (And.right (And.right (And.right (And.right (And.right (And.right (by assumption))))))))) | exact lt_app (And.right (And.right (And.right (And.right (And.right (And.right (And.right (And.right (And.right (by assumption)))))))))) | exact And.right (And.right (And.right (And.right (And.right (And.right (And.right (And.right (And.right (And.right (by assumption)))))))))) | exact lt_app (And.right (And.right (And.right (And.right (And.right (And.right (And.right (And.right (And.right (And.right (by assumption))))))))))) | exact And.right (And.right (And.right (And.right (And.right (And.right (And.right (And.right (And.right (And.right (And.right (by assumption))))))))))) | exact lt_app (And.right (And.right (And.right (And.right (And.right (And.right (And.right (And.right (And.right (And.right (And.right (by assumption)))))))))))) | exact And.right (And.right (And.right (And.right (And.right (And.right (And.right (And.right (And.right (And.right (And.right (And.right (by assumption)))))))))))) | exact lt_app (And.right (And.right (And.right (And.right (And.right (And.right (And.right (And.right (And.right (And.right (And.right (And.right (by assumption))))))))))))) | exact And.right (And.right (And.right (And.right (And.right (And.right (And.right (And.right (And.right (And.right (And.right (And.right (And.right (by assumption))))))))))))) | exact lt_app (And.right (And.right (And.right (And.right (And.right (And.right (And.right (And.right (And.right (And.right (And.right (And.right (And.right (by assumption)))))))))))))) | exact And.right (And.right (And.right (And.right (And.right (And.right (And.right (And.right (And.right (And.right (And.right (And.right (And.right (And.right (by assumption)))))))))))))) | exact lt_app (And.right (And.right (And.right (And.right (And.right (And.right (And.right (And.right (And.right (And.right (And.right (And.right (And.right (And.right (by assumption))))))))))))))) | exact And.right (And.right (And.right (And.right (And.right (And.right (And.right (And.right (And.right (And.right (And.right (And.right (And.right (And.right (And.right (by assumption))))))))))))))) | exact lt_app (And.right (And.right (And.right (And.right (And.right (And.right (And.right (And.right (And.right (And.right (And.right (And.right (And.right (And.right (And.right (by assumption)))))))))))))))) | exact And.right (And.right (And.right (And.right (And.right (And.right (And.right (And.right (And.right (And.right (And.right (And.right (And.right (And.right (And.right (And.right (by assumption)))))))))))))))) | exact lt_app (And.right (And.right (And.right (And.right (And.right (And.right (And.right (And.right (And.right (And.right (And.right (And.right (And.right (And.right (And.right (And.right (by assumption))))))))))))))))))
    case hi => exact i2
end
/- part dbl -/
section
theorem mul_bound {a b m n : Int} (h0 : 0 ≤ a) (h1 : a ≤ m) (h2 : 0 ≤ b) (h3 : b ≤ n) : 0 ≤ a * b ∧ a * b ≤ m * n :=
  ⟨Int.mul_nonneg h0 h2, Int.le_trans (Int.mul_le_mul_of_nonneg_right h1 h2) (Int.mul_le_mul_of_nonneg_left h3 (by omega))⟩
theorem made_three {h₀ h : Heap} {L a b c : Addr} {o o2 o3 : Obj} {led news : List (Addr × Obj)} (N : News h₀ L h led) (h1 : (a, o) ∈ led) (h2 : (b, o2) ∈ led) (h3 : (c, o3) ∈ led) (hs : ∀ p ∈ news, p ∈ led) : News h₀ L h ([(a, o), (b, o2), (c, o3)] ++ news) :=
  fun p hp => N p ((List.mem_cons.mp hp).elim (fun e => e ▸ h1) fun hp => (List.mem_cons.mp hp).elim (fun e => e ▸ h2) fun hp => (List.mem_cons.mp hp).elim (fun e => e ▸ h3) (hs p))
theorem ord_three {a b c : Addr} {o o2 o3 : Obj} {news : List (Addr × Obj)} (h1 : AllLt a news) (h2 : AllLt b news) (h3 : AllLt c news) : ∀ q ∈ news, ∀ p ∈ [(a, o), (b, o2), (c, o3)], q.1 < p.1 := by
  intro q hq p hp
  rcases List.mem_cons.mp hp with e | hp
  · rw [e]; exact kst_ltOf h1 q hq
  · rcases List.mem_cons.mp hp with e | hp
    · rw [e]; exact kst_ltOf h2 q hq
    · rw [List.mem_singleton.mp hp]; exact kst_ltOf h3 q hq
theorem dbl_ok : Keeps 88 dblC := by
  w_top off
  unfold Keeps
  k_fill
  intro w mean mg mb d dp un gd cn cs a ccd cl outer A₀ base h₀ L m news s vs Q E B F X N T hk hR hok hd hu hret
  obtain ⟨wd, dm, dn⟩ := d
  obtain ⟨_, tw, rfl, ⟨p, _, _, rfl, hmp, ⟨a1, us1, n1, xs, rfl, hm1, hi1, hg1⟩, ⟨a2, us2, n2, ys, rfl, hm2, hi2, hg2⟩⟩⟩ := hR
  dsimp only [dblC] at hok hd hu hret hi1 hi2 hg1 hg2 hmp ⊢
  obtain ⟨hw1, hw2, hx1, hx2, hx3⟩ := hok
  have hB := base_ge hw1
  have hm0 := (hg1.lt (by omega)).1
  have hn0 := (hg2.lt (by omega)).1
  have hq1 : 0 ≤ dm * (2 * dn - dm) ∧ dm * (2 * dn - dm) ≤ 260 := mul_bound (a := dm) (b := 2 * dn - dm) (m := 10) (n := 26) hm0 hx2 (by omega) (by omega)
  have hq2 : 0 ≤ dm * dm ∧ dm * dm ≤ 100 := mul_bound (m := 10) (n := 10) hm0 hx2 hm0 hx2
  have hq3 : 0 ≤ dn * dn ∧ dn * dn ≤ 169 := mul_bound (m := 13) (n := 13) hn0 hx3 hn0 hx3
  refine wpAny_call ?_
  k_dflt ktr_enter
  have kMark := kstMark
  rename_i N' _ _ _
  have N2 := news_at (news_at (news_at N' hm1) (List.mem_cons_of_mem _ hm2)) (List.mem_cons_of_mem _ (List.mem_cons_of_mem _ hmp))
  clear N'
  k_with_none
  (repeat' (first | (k_unfold; (try dsimp only)) | (k_end; wrow_close) | (k_here; (with_reducible show wpAny _ _ (PySem.call (Value.ref 109) _) _ _ _); (refine' keeps_use (d := ⟨_, _, _⟩) mul_ok ?k1 ?k2 ?k3 ?k4 ?k5 ?kK ?kR ?ko ?kd ?ku ?_); (case k1 => k_asm); (case k2 => k_asm); (case k3 => k_asm); (case k4 => k_asm); (case k5 => k_asm); (case kK => first | exact rfl | assumption); (case kR => exact ⟨_, _, _, (by exact rfl), ⟨_, _, _, _, (by exact rfl), by k_memK, by assumption, by assumption⟩, ⟨_, _, _, _, (by exact rfl), by k_memK, by assumption, by assumption⟩⟩); (case ko => (refine ⟨?_, ?_, ?_, ?_⟩ <;> (try dsimp only) <;> omega)); (case kd => first | ((simp only [mulC, depth_deeper, depth_in1, depth_under_make, depth_under_kw]); (try dsimp only [ktrTop]); omega) | decide +kernel); (case ku => first | ((simp only [mulC, units_deeper, units_in1, Around.mark_units]); (try dsimp only [ktrTop]); omega) | decide +kernel); (intro r9 tl9 h9 tk9 F' N' hl9 ho9); (obtain ⟨a9, us9, k9, xs9, e1, e2, hi9, hg9⟩ := ho9); (subst e1; subst e2); (simp only [List.cons_append, List.nil_append] at N'); (have l1 := lt_of_one hl9); (try simp only [AllLt, and_true] at l1); (clear hl9); (try dsimp only at hg9); (have hL9 := hg9.1)) | (k_here; (with_reducible show wpAny _ _ (PySem.call (Value.ref 74) _) _ _ _); (refine' keeps_use (d := ⟨_, _⟩) shl_ok ?k1 ?k2 ?k3 ?k4 ?k5 ?kK ?kR ?ko ?kd ?ku ?_); (case k1 => k_asm); (case k2 => k_asm); (case k3 => k_asm); (case k4 => k_asm); (case k5 => k_asm); (case kK => first | exact rfl | assumption); (case kR => exact ⟨_, _, _, (by exact rfl), ⟨_, _, _, _, (by exact rfl), by k_memK, by assumption, by assumption⟩⟩); (case ko => (refine ⟨?_, ?_, ?_⟩ <;> (try dsimp only) <;> omega)); (case kd => first | ((simp only [shlC, depth_deeper, depth_in1, depth_under_make, depth_under_kw]); (try dsimp only [ktrTop]); omega) | decide +kernel); (case ku => first | ((simp only [shlC, units_deeper, units_in1, Around.mark_units]); (try dsimp only [ktrTop]); omega) | decide +kernel); (intro r9 tl9 h9 tk9 F' N' hl9 ho9); (obtain ⟨a9, us9, k9, xs9, e1, e2, hi9, hg9⟩ := ho9); (subst e1; subst e2); (simp only [List.cons_append, List.nil_append] at N'); (have l1 := lt_of_one hl9); (try simp only [AllLt, and_true] at l1); (clear hl9); (try dsimp only at hg9); (have hL9 := hg9.1)) | (k_here; (with_reducible show wpAny _ _ (PySem.call (Value.ref 67) _) _ _ _); (refine' keeps_use (d := ⟨_, _, _⟩) sub_ok ?k1 ?k2 ?k3 ?k4 ?k5 ?kK ?kR ?ko ?kd ?ku ?_); (case k1 => k_asm); (case k2 => k_asm); (case k3 => k_asm); (case k4 => k_asm); (case k5 => k_asm); (case kK => first | exact rfl | assumption); (case kR => exact ⟨_, _, _, (by exact rfl), ⟨_, _, _, _, (by exact rfl), by k_memK, by assumption, by assumption⟩, ⟨_, _, _, _, (by exact rfl), by k_memK, by assumption, by assumption⟩⟩); (case ko => (refine ⟨?_, ?_, ?_, ?_⟩ <;> (try dsimp only) <;> omega)); (case kd => first | ((simp only [subC, depth_deeper, depth_in1, depth_under_make, depth_under_kw]); (try dsimp only [ktrTop]); omega) | decide +kernel); (case ku => first | ((simp only [subC, units_deeper, units_in1, Around.mark_units]); (try dsimp only [ktrTop]); omega) | decide +kernel); (intro r9 tl9 h9 tk9 F' N' hl9 ho9); (obtain ⟨a9, us9, k9, xs9, e1, e2, hi9, hg9⟩ := ho9); (subst e1; subst e2); (simp only [List.cons_append, List.nil_append] at N'); (have l1 := lt_of_one hl9); (try simp only [AllLt, and_true] at l1); (clear hl9); (try dsimp only at hg9); (have hL9 := hg9.1)) | (k_here; (with_reducible show wpAny _ _ (PySem.call (Value.ref 60) _) _ _ _); (refine' keeps_use (d := ⟨_, _, _⟩) add_ok ?k1 ?k2 ?k3 ?k4 ?k5 ?kK ?kR ?ko ?kd ?ku ?_); (case k1 => k_asm); (case k2 => k_asm); (case k3 => k_asm); (case k4 => k_asm); (case k5 => k_asm); (case kK => first | exact rfl | assumption); (case kR => exact ⟨_, _, _, (by exact rfl), ⟨_, _, _, _, (by exact rfl), by k_memK, by assumption, by assumption⟩, ⟨_, _, _, _, (by exact rfl), by k_memK, by assumption, by assumption⟩⟩); (case ko => (refine ⟨?_, ?_, ?_, ?_⟩ <;> (try dsimp only) <;> omega)); (case kd => first | ((simp only [addC, depth_deeper, depth_in1, depth_under_make, depth_under_kw]); (try dsimp only [ktrTop]); omega) | decide +kernel); (case ku => first | ((simp only [addC, units_deeper, units_in1, Around.mark_units]); (try dsimp only [ktrTop]); omega) | decide +kernel); (intro r9 tl9 h9 tk9 F' N' hl9 ho9); (obtain ⟨a9, us9, k9, xs9, e1, e2, hi9, hg9⟩ := ho9); (subst e1; subst e2); (simp only [List.cons_append, List.nil_append] at N'); (have l1 := lt_of_one hl9); (try simp only [AllLt, and_true] at l1); (clear hl9); (try dsimp only at hg9); (have hL9 := hg9.1)) | ((((fail_if_success (with_reducible show wpAny _ _ (PySem.exec (Stmt.While _ _ _ _) _) _ _ _)); (fail_if_success (with_reducible show wpAny _ _ (PySem.exec (Stmt.For _ _ _ _ _) _) _ _ _)); (fail_if_success (with_reducible show wpAny _ _ (pyIter (Value.ref _)) (fun it s₂ => LoopAtV _ _ _ _ _ _ _ _ _ it s₂) _ _)); (fail_if_success (with_reducible show wpAny _ _ (pyIter (Value.ref _)) (fun it s₂ => PairAt3 _ _ _ _ _ _ _ _ _ _ it s₂) _ _)))); first | walk1 | (dsimp only; walk1)) | (leave1; walk_say "STEP leave1"; try dsimp only) | fail "no step"))
  (
    (rename News _ _ _ _ => kN9)
    (refine' hret _ [(_, tup2 (.ref _) (.ref _)), (_, listOf (List.toArray _) _), (_, listOf (List.toArray _) _)] _ _ (by assumption) (made_three kN9 ?hin1 ?hin2 ?hin3 ?hsub) (ord_three ?hlt1 ?hlt2 ?hlt3) ⟨_, _, _, _, _, _, _, _, _, rfl, rfl, ?hi1, ?hd1, ?hi2, ?hd2⟩)
    case hin1 => k_memK
    case hin2 => k_memK
    case hin3 => k_memK
    case hsub => (intro p9 h9; kst_mem)
    case hlt1 => (first | assumption | exact allLt_of (by assumption) | exact lt_app (by assumption) | exact And.right (by assumption) | exact lt_app (And.right (by assumption)) | exact And.right (And.right (by assumption)) | exact lt_app (And.right (And.right (by assumption))) | exact And.right (And.right (And.right (by assumption))) | exact lt_app (And.right (And.right (And.right (by assumption)))) | exact And.right (And.right (And.right (And.right (by assumption)))) | exact lt_app (And.right (And.right (And.right (And.right (by assumption))))) | exact And.right (And.right (And.right (And.right (And.right (by assumption))))) | exact lt_app (And.right (And.right (And.right (And.right (And.right (by assumption)))))) | exact And.right (And.right (And.right (And.right (And.right (And.right (by assumption)))))) | exact lt_app (And.right (And.right (And.right (And.right (And.right (And.right (by assumption))))))) | exact And.right (And.right (And.right (And.right (And.right (And.right (And.right (by assumption))))))) | exact lt_app (And.right (And.right (And.right (And.right (And.right (And.right (And.right (by assumption)))))))) | exact And.right (And.right (And.right (And.right (And.right (And.right (And.right (And.right (by assumption)))))))) | exact lt_app (And.right (And.right (And.right (And.right (And.right (And.right (And.right (And.right (by assumption))))))))) | exact And.right (And.right (And.right (And.right (And.right (And.right (And.right (And.right (And.right (by assumption))))))))) | exact lt_app (And.right (And.right (And.right (And.right (And.right (And.right (And.right (And.right (And.right (by assumption)))))))))) | exact And.right (And.right (And.right (And.right (And.right (And.right (And.right (And.right (And.right (And.right (by assumption)))))))))) | exact lt_app (And.right (And.right (And.right (And.right (And.right (And.right (And.right (And.right (And.right (And.right (by assumption))))))))))) | exact And.right (And.right (And.right (And.right (And.right (And.right (And.right (And.right (And.right (And.right (And.right (by assumption))))))))))) | exact lt_app (And.right (And.right (And.right (And.right (And.right (And.right (And.right (And.right (And.right (And.right (And.right (by assumption)))))))))))) | exact And.right (And.right (And.right (And.right (And.right (And.right (And.right (And.right (And.right (And.right (And.right (And.right (by assumption)))))))))))) | exact lt_app (And.right (And.right (And.right (And.right (And.right (And.right (And.right (And.right (And.right (And.right (And.right (And.right (by assumption))))))))))))) | exact And.right (And.right (And.right (And.right (And.right (And.right (And.right (And.right (And.right (And.right (And.right (And.right (And.right (by assumption))))))))))))) | exact lt_app (And.right (And.right (And.right (And.right (And.right (And.right (And.right (And.right (And.right (And.right (And.right (And.right (And.right (by assumption)))))))))))))) | exact And.right (And.right (And.right (And.right (And.right (And.right (And.right (And.right (And.right (And.right (And.right (And.right (And.right (And.right (by assumption)))))))))))))) | exact lt_app (And.right (And.right (And.right (And.right (And.right (And.right (And.right (And.right (And.right (And.right (And.right (And.right (And.right (And.right (by assumption))))))))))))))) | exact And.right (And.right (And.right (And.right (And.right (And.right (And.right (And.right (And.right (And.right (And.right (And.right (And.right (And.right (And.right (by assumption))))))))))))))) | exact lt_app (And.right (And.right (And.right (And.right (And.right (And.right (And.right (And.right (And.right (And.right (And.right (And.right (And.right (And.right (And.right (by assumption)))))))))))))))) | exact And.right (And.right (And.right (And.right (And.right (And.right (And.right (And.right (And.right (And.right (And.right (And.right (And.right (And.right (And.right (And.right (by assumption)))))))))))))))) | exact lt_app (And.right (And.right (And.right (And.right (And.right (And.right (And.right (And.right (And.right (And.right (And.right (And.right (And.right (And.right (And.right (And.right (by assumption))))))))))))))))))
    case hlt2 => (first | assumption | exact allLt_of (by assumption) | exact lt_app (by assumption) | exact And.right (by assumption) | exact lt_app (And.right (by assumption)) | exact And.right (And.right (by assumption)) | exact lt_app (And.right (And.right (by assumption))) | exact And.right (And.right (And.right (by assumption))) | exact lt_app (And.right (And.right (And.right (by assumption)))) | exact And.right (And.right (And.right (And.right (by assumption)))) | exact lt_app (And.right (And.right (And.right (And.right (by assumption))))) | exact And.right (And.right (And.right (And.right (And.right (by assumption))))) | exact lt_app (And.right (And.right (And.right (And.right (And.right (by assumption)))))) | exact And.right (And.right (And.right (And.right (And.right (And.right (by assumption)))))) | exact lt_app (And.right (And.right (And.right (And.right (And.right (And.right (by assumption))))))) | exact And.right (And.right (And.right (And.right (And.right (And.right (And.right (by assumption))))))) | exact lt_app (And.right (And.right (And.right (And.right (And.right (And.right (And.right (by assumption)))))))) | exact And.right (And.right (And.right (And.right (And.right (And.right (And.right (And.right (by assumption)))))))) | exact lt_app (And.right (And.right (And.right (And.right (And.right (And.right (And.right (And.right (by assumption))))))))) | exact And.right (And.right (And.right (And.right (And.right (And.right (And.right (And.right (And.right (by assumption))))))))) | exact lt_app (And.right (And.right (And.right (And.right (And.right (And.right (And.right (And.right (And.right (by assumption)))))))))) | exact And.right (And.right (And.right (And.right (And.right (And.right (And.right (And.right (And.right (And.right (by assumption)))))))))) | exact lt_app (And.right (And.right (And.right (And.right (And.right (And.right (And.right (And.right (And.right (And.right (by assumption))))))))))) | exact And.right (And.right (And.right (And.right (And.right (And.right (And.right (And.right (And.right (And.right (And.right (by assumption))))))))))) | exact lt_app (And.right (And.right (And.right (And.right (And.right (And.right (And.right (And.right (And.right (And.right (And.right (by assumption)))))))))))) | exact And.right (And.right (And.right (And.right (And.right (And.right (And.right (And.right (And.right (And.right (And.right (And.right (by assumption)))))))))))) | exact lt_app (And.right (And.right (And.right (And.right (And.right (And.right (And.right (And.right (And.right (And.right (And.right (And.right (by assumption))))))))))))) | exact And.right (And.right (And.right (And.right (And.right (And.right (And.right (And.right (And.right (And.right (And.right (And.right (And.right (by assumption))))))))))))) | exact lt_app (And.right (And.right (And.right (And.right (And.right (And.right (And.right (And.right (And.right (And.right (And.right (And.right (And.right (by assumption)))))))))))))) | exact And.right (And.right (And.right (And.right (And.right (And.right (And.right (And.right (And.right (And.right (And.right (And.right (And.right (And.right (by assumption)))))))))))))) | exact lt_app (And.right (And.right (And.right (And.right (And.right (And.right (And.right (And.right (And.right (And.right (And.right (And.right (And.right (And.right (by assumption))))))))))))))) | exact And.right (And.right (And.right (And.right (And.right (And.right (And.right (And.right (And.right (And.right (And.right (And.right (And.right (And.right (And.right (by assumption))))))))))))))) | exact lt_app (And.right (And.right (And.right (And.right (And.right (And.right (And.right (And.right (And.right (And.right (And.right (And.right (And.right (And.right (And.right (by assumption)))))))))))))))) | exact And.right (And.right (And.right (And.right (And.right (And.right (And.right (And.right (And.right (And.right (And.right (And.right (And.right (And.right (And.right (And.right (by assumption)))))))))))))))) | exact lt_app (And.right (And.right (And.right (And.right (And.right (And.right (And.right (And.right (And.right (And.right (And.right (And.right (And.right (And.right (And.right (And.right (by assumption))))))))))))))))))
    case hlt3 => (first | assumption | exact allLt_of (by assumption) | exact lt_app (by assumption) | exact And.right (by assumption) | exact lt_app (And.right (by assumption)) | exact And.right (And.right (by assumption)) | exact lt_app (And.right (And.right (by assumption))) | exact And.right (And.right (And.right (by assumption))) | exact lt_app (And.right (And.right (And.right (by assumption)))) | exact And.right (And.right (And.right (And.right (by assumption)))) | exact lt_app (And.right (And.right (And.right (And.right (by assumption))))) | exact And.right (And.right (And.right (And.right (And.right (by assumption))))) | exact lt_app (And.right (And.right (And.right (And.right (And.right (by assumption)))))) | exact And.right (And.right (And.right (And.right (And.right (And.right (by assumption)))))) | exact lt_app (And.right (And.right (And.right (And.right (And.right (And.right (by assumption))))))) | exact And.right (And.right (And.right (And.right (And.right (And.right (And.right (by assumption))))))) | exact lt_app (And.right (And.right (And.right (And.right (And.right (And.right (And.right (by assumption)))))))) | exact And.right (And.right (And.right (And.right (And.right (And.right (And.right (And.right (by assumption)))))))) | exact lt_app (And.right (And.right (And.right (And.right (And.right (And.right (And.right (And.right (by assumption))))))))) | exact And.right (And.right (And.right (And.right (And.right (And.right (And.right (And.right (And.right (by assumption))))))))) | exact lt_app (And.right (And.right (And.right (And.right (And.right (And.right (And.right (And.right (And.right (by assumption)))))))))) | exact And.right (And.right (And.right (And.right (And.right (And.right (And.right (And.right (And.right (And.right (by assumption)))))))))) | exact lt_app (And.right (And.right (And.right (And.right (And.right (And.right (And.right (And.right (And.right (And.right (by assumption))))))))))) | exact And.right (And.right (And.right (And.right (And.right (And.right (And.right (And.right (And.right (And.right (And.right (by assumption))))))))))) | exact lt_app (And.right (And.right (And.right (And.right (And.right (And.right (And.right (And.right (And.right (And.right (And.right (by assumption)))))))))))) | exact And.right (And.right (And.right (And.right (And.right (And.right (And.right (And.right (And.right (And.right (And.right (And.right (by assumption)))))))))))) | exact lt_app (And.right (And.right (And.right (And.right (And.right (And.right (And.right (And.right (And.right (And.right (And.right (And.right (by assumption))))))))))))) | exact And.right (And.right (And.right (And.right (And.right (And.right (And.right (And.right (And.right (And.right (And.right (And.right (And.right (by assumption))))))))))))) | exact lt_app (And.right (And.right (And.right (And.right (And.right (And.right (And.right (And.right (And.right (And.right (And.right (And.right (And.right (by assumption)))))))))))))) | exact And.right (And.right (And.right (And.right (And.right (And.right (And.right (And.right (And.right (And.right (And.right (And.right (And.right (And.right (by assumption)))))))))))))) | exact lt_app (And.right (And.right (And.right (And.right (And.right (And.right (And.right (And.right (And.right (And.right (And.right (And.right (And.right (And.right (by assumption))))))))))))))) | exact And.right (And.right (And.right (And.right (And.right (And.right (And.right (And.right (And.right (And.right (And.right (And.right (And.right (And.right (And.right (by assumption))))))))))))))) | exact lt_app (And.right (And.right (And.right (And.right (And.right (And.right (And.right (And.right (And.right (And.right (And.right (And.right (And.right (And.right (And.right (by assumption)))))))))))))))) | exact And.right (And.right (And.right (And.right (And.right (And.right (And.right (And.right (And.right (And.right (And.right (And.right (And.right (And.right (And.right (And.right (by assumption)))))))))))))))) | exact lt_app (And.right (And.right (And.right (And.right (And.right (And.right (And.right (And.right (And.right (And.right (And.right (And.right (And.right (And.right (And.right (And.right (by assumption))))))))))))))))))
    case hi1 => assumption
    case hi2 => assumption
    case hd1 => assumption 
    case hd2 =>  assumption)
end
/- part fp -/
section
theorem fp_ok : Keeps 95 fpC := by
  w_top off
  unfold Keeps
  k_fill
  intro w mean mg mb d dp un gd cn cs a ccd cl outer A₀ base h₀ L m news s vs Q E B F X N T hk hR hok hd hu hret
  obtain ⟨wd, dm⟩ := d
  obtain ⟨tn, tw, rfl⟩ := hR
  dsimp only [fpC] at hok hd hu hret ⊢
  obtain ⟨hw1, hw2, hx0, hx1⟩ := hok
  have hB := base_ge hw1
  refine wpAny_call ?_
  k_dflt ktr_enter
  have kMark := kstMark
  rename_i N' _ _ _
  k_with_none
  (repeat' (first | (k_unfold; (try dsimp only)) | (k_end; wrow_close) | (k_here; (with_reducible show wpAny _ _ (PySem.call (Value.ref 88) _) _ _ _); (refine' keeps_use (d := ⟨_, _, _⟩) dbl_ok ?k1 ?k2 ?k3 ?k4 ?k5 ?kK ?kR ?ko ?kd ?ku ?_); (case k1 => k_asm); (case k2 => k_asm); (case k3 => k_asm); (case k4 => k_asm); (case k5 => k_asm); (case kK => first | exact rfl | assumption); (case kR => exact ⟨_, _, (by exact rfl), _, _, _, (by exact rfl), by k_memK, ⟨_, _, _, _, (by exact rfl), by k_memK, by assumption, by assumption⟩, ⟨_, _, _, _, (by exact rfl), by k_memK, by assumption, by assumption⟩⟩); (case ko => (refine ⟨?_, ?_, ?_, ?_, ?_⟩ <;> (try dsimp only) <;> omega)); (case kd => first | ((simp only [dblC, depth_deeper, depth_in1, depth_under_make, depth_under_kw]); (try dsimp only [ktrTop]); omega) | decide +kernel); (case ku => first | ((simp only [dblC, units_deeper, units_in1, Around.mark_units]); (try dsimp only [ktrTop]); omega) | decide +kernel); (intro r9 tl9 h9 tk9 F' N' hl9 ho9); (obtain ⟨p9, a9, us9, k9, xs9, b9, us8, k8, xs8, e1, e2, hi9, hg9, hi8, hg8⟩ := ho9); (subst e1; subst e2); (simp only [List.cons_append, List.nil_append] at N'); (obtain ⟨l1, l2, l3⟩ := lt_of_three hl9); (try simp only [AllLt, and_true] at l1 l2 l3); (clear hl9); (try dsimp only at hg9 hg8)) | (k_here; (with_reducible show wpAny _ _ (PySem.call (Value.ref 60) _) _ _ _); (refine' keeps_use (d := ⟨_, _, _⟩) add_ok ?k1 ?k2 ?k3 ?k4 ?k5 ?kK ?kR ?ko ?kd ?ku ?_); (case k1 => k_asm); (case k2 => k_asm); (case k3 => k_asm); (case k4 => k_asm); (case k5 => k_asm); (case kK => first | exact rfl | assumption); (case kR => exact ⟨_, _, _, (by exact rfl), ⟨_, _, _, _, (by exact rfl), by k_memK, by assumption, by assumption⟩, ⟨_, _, _, _, (by exact rfl), by k_memK, by assumption, by assumption⟩⟩); (case ko => (refine ⟨?_, ?_, ?_, ?_⟩ <;> (try dsimp only) <;> omega)); (case kd => first | ((simp only [addC, depth_deeper, depth_in1, depth_under_make, depth_under_kw]); (try dsimp only [ktrTop]); omega) | decide +kernel); (case ku => first | ((simp only [addC, units_deeper, units_in1, Around.mark_units]); (try dsimp only [ktrTop]); omega) | decide +kernel); (intro r9 tl9 h9 tk9 F' N' hl9 ho9); (obtain ⟨a9, us9, k9, xs9, e1, e2, hi9, hg9⟩ := ho9); (subst e1; subst e2); (simp only [List.cons_append, List.nil_append] at N'); (have l1 := lt_of_one hl9); (try simp only [AllLt, and_true] at l1); (clear hl9); (try dsimp only at hg9); (have hL9 := hg9.1)) | (k_here; (with_reducible show wpAny _ _ (PySem.call (Value.ref 81) _) _ _ _); (refine' keeps_use (d := _) nc_ok ?k1 ?k2 ?k3 ?k4 ?k5 ?kK ?kR ?ko ?kd ?ku ?_); (case k1 => k_asm); (case k2 => k_asm); (case k3 => k_asm); (case k4 => k_asm); (case k5 => k_asm); (case kK => first | exact rfl | assumption); (case kR => exact ⟨_, (by exact rfl)⟩); (case ko => (show 0 ≤ _; omega)); (case kd => first | ((simp only [ncC, depth_deeper, depth_in1, depth_under_make, depth_under_kw]); (try dsimp only [ktrTop]); omega) | decide +kernel); (case ku => first | ((simp only [ncC, units_deeper, units_in1, Around.mark_units]); (try dsimp only [ktrTop]); omega) | decide +kernel); (intro r9 tl9 h9 tk9 F' N' hl9 ho9); (obtain ⟨e2, e1⟩ := ho9); (subst e1; subst e2); (simp only [List.nil_append] at N'); (clear hl9)) | ((((fail_if_success (with_reducible show wpAny _ _ (PySem.exec (Stmt.While _ _ _ _) _) _ _ _)); (fail_if_success (with_reducible show wpAny _ _ (PySem.exec (Stmt.For _ _ _ _ _) _) _ _ _)); (fail_if_success (with_reducible show wpAny _ _ (pyIter (Value.ref _)) (fun it s₂ => LoopAtV _ _ _ _ _ _ _ _ _ it s₂) _ _)); (fail_if_success (with_reducible show wpAny _ _ (pyIter (Value.ref _)) (fun it s₂ => PairAt3 _ _ _ _ _ _ _ _ _ _ it s₂) _ _)))); first | walk1 | (dsimp only; walk1)) | (leave1; walk_say "STEP leave1"; try dsimp only) | fail "no step"))
  rename_i la _ _ lb _ _ lp _ _ _ _ _ _ _ _ F1 N1
  have hst := fp_first hx0 hx1
  refine ksw_while (σ := FpS) (fpLed news) fpPs (fun _ => True) [] (FpInv wd dm news) (fun c => (c.at_ + 1).toNat) ⟨lp, la, [], 0, [], lb, [_], 0, [1], _, _⟩ F1 (news_sub N1 (fun p hp => List.Mem.tail _ (by
    rcases List.mem_cons.mp hp with e | hp
    · rw [e]; exact .head _
    · rcases List.mem_cons.mp hp with e | hp
      · rw [e]; exact .tail _ (.tail _ (.head _))
      · rcases List.mem_cons.mp hp with e | hp
        · rw [e]; exact .tail _ (.head _)
        · exact .tail _ (.tail _ (.tail _ hp))))) trivial (by kst_all) ?_ ?_
  · refine ⟨⟨by (first | assumption | exact allLt_of (by assumption) | exact lt_app (by assumption) | exact And.right (by assumption) | exact lt_app (And.right (by assumption)) | exact And.right (And.right (by assumption)) | exact lt_app (And.right (And.right (by assumption))) | exact And.right (And.right (And.right (by assumption))) | exact lt_app (And.right (And.right (And.right (by assumption)))) | exact And.right (And.right (And.right (And.right (by assumption)))) | exact lt_app (And.right (And.right (And.right (And.right (by assumption))))) | exact And.right (And.right (And.right (And.right (And.right (by assumption))))) | exact lt_app (And.right (And.right (And.right (And.right (And.right (by assumption)))))) | exact And.right (And.right (And.right (And.right (And.right (And.right (by assumption)))))) | exact lt_app (And.right (And.right (And.right (And.right (And.right (And.right (by assumption))))))) | exact And.right (And.right (And.right (And.right (And.right (And.right (And.right (by assumption))))))) | exact lt_app (And.right (And.right (And.right (And.right (And.right (And.right (And.right (by assumption)))))))) | exact And.right (And.right (And.right (And.right (And.right (And.right (And.right (And.right (by assumption)))))))) | exact lt_app (And.right (And.right (And.right (And.right (And.right (And.right (And.right (And.right (by assumption))))))))) | exact And.right (And.right (And.right (And.right (And.right (And.right (And.right (And.right (And.right (by assumption))))))))) | exact lt_app (And.right (And.right (And.right (And.right (And.right (And.right (And.right (And.right (And.right (by assumption)))))))))) | exact And.right (And.right (And.right (And.right (And.right (And.right (And.right (And.right (And.right (And.right (by assumption)))))))))) | exact lt_app (And.right (And.right (And.right (And.right (And.right (And.right (And.right (And.right (And.right (And.right (by assumption))))))))))) | exact And.right (And.right (And.right (And.right (And.right (And.right (And.right (And.right (And.right (And.right (And.right (by assumption))))))))))) | exact lt_app (And.right (And.right (And.right (And.right (And.right (And.right (And.right (And.right (And.right (And.right (And.right (by assumption)))))))))))) | exact And.right (And.right (And.right (And.right (And.right (And.right (And.right (And.right (And.right (And.right (And.right (And.right (by assumption)))))))))))) | exact lt_app (And.right (And.right (And.right (And.right (And.right (And.right (And.right (And.right (And.right (And.right (And.right (And.right (by assumption))))))))))))) | exact And.right (And.right (And.right (And.right (And.right (And.right (And.right (And.right (And.right (And.right (And.right (And.right (And.right (by assumption))))))))))))) | exact lt_app (And.right (And.right (And.right (And.right (And.right (And.right (And.right (And.right (And.right (And.right (And.right (And.right (And.right (by assumption)))))))))))))) | exact And.right (And.right (And.right (And.right (And.right (And.right (And.right (And.right (And.right (And.right (And.right (And.right (And.right (And.right (by assumption)))))))))))))) | exact lt_app (And.right (And.right (And.right (And.right (And.right (And.right (And.right (And.right (And.right (And.right (And.right (And.right (And.right (And.right (by assumption))))))))))))))) | exact And.right (And.right (And.right (And.right (And.right (And.right (And.right (And.right (And.right (And.right (And.right (And.right (And.right (And.right (And.right (by assumption))))))))))))))) | exact lt_app (And.right (And.right (And.right (And.right (And.right (And.right (And.right (And.right (And.right (And.right (And.right (And.right (And.right (And.right (And.right (by assumption)))))))))))))))) | exact And.right (And.right (And.right (And.right (And.right (And.right (And.right (And.right (And.right (And.right (And.right (And.right (And.right (And.right (And.right (And.right (by assumption)))))))))))))))) | exact lt_app (And.right (And.right (And.right (And.right (And.right (And.right (And.right (And.right (And.right (And.right (And.right (And.right (And.right (And.right (And.right (And.right (by assumption)))))))))))))))))), by (first | assumption | exact allLt_of (by assumption) | exact lt_app (by assumption) | exact And.right (by assumption) | exact lt_app (And.right (by assumption)) | exact And.right (And.right (by assumption)) | exact lt_app (And.right (And.right (by assumption))) | exact And.right (And.right (And.right (by assumption))) | exact lt_app (And.right (And.right (And.right (by assumption)))) | exact And.right (And.right (And.right (And.right (by assumption)))) | exact lt_app (And.right (And.right (And.right (And.right (by assumption))))) | exact And.right (And.right (And.right (And.right (And.right (by assumption))))) | exact lt_app (And.right (And.right (And.right (And.right (And.right (by assumption)))))) | exact And.right (And.right (And.right (And.right (And.right (And.right (by assumption)))))) | exact lt_app (And.right (And.right (And.right (And.right (And.right (And.right (by assumption))))))) | exact And.right (And.right (And.right (And.right (And.right (And.right (And.right (by assumption))))))) | exact lt_app (And.right (And.right (And.right (And.right (And.right (And.right (And.right (by assumption)))))))) | exact And.right (And.right (And.right (And.right (And.right (And.right (And.right (And.right (by assumption)))))))) | exact lt_app (And.right (And.right (And.right (And.right (And.right (And.right (And.right (And.right (by assumption))))))))) | exact And.right (And.right (And.right (And.right (And.right (And.right (And.right (And.right (And.right (by assumption))))))))) | exact lt_app (And.right (And.right (And.right (And.right (And.right (And.right (And.right (And.right (And.right (by assumption)))))))))) | exact And.right (And.right (And.right (And.right (And.right (And.right (And.right (And.right (And.right (And.right (by assumption)))))))))) | exact lt_app (And.right (And.right (And.right (And.right (And.right (And.right (And.right (And.right (And.right (And.right (by assumption))))))))))) | exact And.right (And.right (And.right (And.right (And.right (And.right (And.right (And.right (And.right (And.right (And.right (by assumption))))))))))) | exact lt_app (And.right (And.right (And.right (And.right (And.right (And.right (And.right (And.right (And.right (And.right (And.right (by assumption)))))))))))) | exact And.right (And.right (And.right (And.right (And.right (And.right (And.right (And.right (And.right (And.right (And.right (And.right (by assumption)))))))))))) | exact lt_app (And.right (And.right (And.right (And.right (And.right (And.right (And.right (And.right (And.right (And.right (And.right (And.right (by assumption))))))))))))) | exact And.right (And.right (And.right (And.right (And.right (And.right (And.right (And.right (And.right (And.right (And.right (And.right (And.right (by assumption))))))))))))) | exact lt_app (And.right (And.right (And.right (And.right (And.right (And.right (And.right (And.right (And.right (And.right (And.right (And.right (And.right (by assumption)))))))))))))) | exact And.right (And.right (And.right (And.right (And.right (And.right (And.right (And.right (And.right (And.right (And.right (And.right (And.right (And.right (by assumption)))))))))))))) | exact lt_app (And.right (And.right (And.right (And.right (And.right (And.right (And.right (And.right (And.right (And.right (And.right (And.right (And.right (And.right (by assumption))))))))))))))) | exact And.right (And.right (And.right (And.right (And.right (And.right (And.right (And.right (And.right (And.right (And.right (And.right (And.right (And.right (And.right (by assumption))))))))))))))) | exact lt_app (And.right (And.right (And.right (And.right (And.right (And.right (And.right (And.right (And.right (And.right (And.right (And.right (And.right (And.right (And.right (by assumption)))))))))))))))) | exact And.right (And.right (And.right (And.right (And.right (And.right (And.right (And.right (And.right (And.right (And.right (And.right (And.right (And.right (And.right (And.right (by assumption)))))))))))))))) | exact lt_app (And.right (And.right (And.right (And.right (And.right (And.right (And.right (And.right (And.right (And.right (And.right (And.right (And.right (And.right (And.right (And.right (by assumption)))))))))))))))))), by (first | assumption | exact allLt_of (by assumption) | exact lt_app (by assumption) | exact And.right (by assumption) | exact lt_app (And.right (by assumption)) | exact And.right (And.right (by assumption)) | exact lt_app (And.right (And.right (by assumption))) | exact And.right (And.right (And.right (by assumption))) | exact lt_app (And.right (And.right (And.right (by assumption)))) | exact And.right (And.right (And.right (And.right (by assumption)))) | exact lt_app (And.right (And.right (And.right (And.right (by assumption))))) | exact And.right (And.right (And.right (And.right (And.right (by assumption))))) | exact lt_app (And.right (And.right (And.right (And.right (And.right (by assumption)))))) | exact And.right (And.right (And.right (And.right (And.right (And.right (by assumption)))))) | exact lt_app (And.right (And.right (And.right (And.right (And.right (And.right (by assumption))))))) | exact And.right (And.right (And.right (And.right (And.right (And.right (And.right (by assumption))))))) | exact lt_app (And.right (And.right (And.right (And.right (And.right (And.right (And.right (by assumption)))))))) | exact And.right (And.right (And.right (And.right (And.right (And.right (And.right (And.right (by assumption)))))))) | exact lt_app (And.right (And.right (And.right (And.right (And.right (And.right (And.right (And.right (by assumption))))))))) | exact And.right (And.right (And.right (And.right (And.right (And.right (And.right (And.right (And.right (by assumption))))))))) | exact lt_app (And.right (And.right (And.right (And.right (And.right (And.right (And.right (And.right (And.right (by assumption)))))))))) | exact And.right (And.right (And.right (And.right (And.right (And.right (And.right (And.right (And.right (And.right (by assumption)))))))))) | exact lt_app (And.right (And.right (And.right (And.right (And.right (And.right (And.right (And.right (And.right (And.right (by assumption))))))))))) | exact And.right (And.right (And.right (And.right (And.right (And.right (And.right (And.right (And.right (And.right (And.right (by assumption))))))))))) | exact lt_app (And.right (And.right (And.right (And.right (And.right (And.right (And.right (And.right (And.right (And.right (And.right (by assumption)))))))))))) | exact And.right (And.right (And.right (And.right (And.right (And.right (And.right (And.right (And.right (And.right (And.right (And.right (by assumption)))))))))))) | exact lt_app (And.right (And.right (And.right (And.right (And.right (And.right (And.right (And.right (And.right (And.right (And.right (And.right (by assumption))))))))))))) | exact And.right (And.right (And.right (And.right (And.right (And.right (And.right (And.right (And.right (And.right (And.right (And.right (And.right (by assumption))))))))))))) | exact lt_app (And.right (And.right (And.right (And.right (And.right (And.right (And.right (And.right (And.right (And.right (And.right (And.right (And.right (by assumption)))))))))))))) | exact And.right (And.right (And.right (And.right (And.right (And.right (And.right (And.right (And.right (And.right (And.right (And.right (And.right (And.right (by assumption)))))))))))))) | exact lt_app (And.right (And.right (And.right (And.right (And.right (And.right (And.right (And.right (And.right (And.right (And.right (And.right (And.right (And.right (by assumption))))))))))))))) | exact And.right (And.right (And.right (And.right (And.right (And.right (And.right (And.right (And.right (And.right (And.right (And.right (And.right (And.right (And.right (by assumption))))))))))))))) | exact lt_app (And.right (And.right (And.right (And.right (And.right (And.right (And.right (And.right (And.right (And.right (And.right (And.right (And.right (And.right (And.right (by assumption)))))))))))))))) | exact And.right (And.right (And.right (And.right (And.right (And.right (And.right (And.right (And.right (And.right (And.right (And.right (And.right (And.right (And.right (And.right (by assumption)))))))))))))))) | exact lt_app (And.right (And.right (And.right (And.right (And.right (And.right (And.right (And.right (And.right (And.right (And.right (And.right (And.right (And.right (And.right (And.right (by assumption))))))))))))))))))⟩, .nil, .cons _ _ .nil, ?_, ?_, hst.1, hst.2.1⟩
    · rw [hst.2.2]; exact Dg.nil _
    · rw [hst.2.2]; exact Dg.one (by decide) (by omega)
  rintro ⟨p, a1, us1, k1, xs1, a2, us2, k2, xs2, at_, tka⟩ u h tk2 _ ⟨⟨q1, q2, q3⟩, i1, i2, d1, d2, b0, b1⟩ kFr kNews
  (try dsimp only [kstB, fpPs] at kFr); (try dsimp only [fpLed] at kNews); dsimp only at q1 q2 q3 i1 i2 d1 d2 b0 b1
  (with_reducible show wpAny _ _ _ _ _ _)
  k_fold
  have hfp : 0 ≤ at_ → _ := fun h => fp_facts hx0 hx1 h b1
  (repeat' (first | (k_unfold; (try dsimp only)) | (k_end; wrow_close) | (k_here; (with_reducible show wpAny _ _ (PySem.call (Value.ref 88) _) _ _ _); (refine' keeps_use (d := ⟨_, _, _⟩) dbl_ok ?k1 ?k2 ?k3 ?k4 ?k5 ?kK ?kR ?ko ?kd ?ku ?_); (case k1 => k_asm); (case k2 => k_asm); (case k3 => k_asm); (case k4 => k_asm); (case k5 => k_asm); (case kK => first | exact rfl | assumption); (case kR => exact ⟨_, _, (by exact rfl), _, _, _, (by exact rfl), by k_memK, ⟨_, _, _, _, (by exact rfl), by k_memK, by assumption, by assumption⟩, ⟨_, _, _, _, (by exact rfl), by k_memK, by assumption, by assumption⟩⟩); (case ko => (refine ⟨?_, ?_, ?_, ?_, ?_⟩ <;> (try dsimp only) <;> omega)); (case kd => first | ((simp only [dblC, depth_deeper, depth_in1, depth_under_make, depth_under_kw]); (try dsimp only [ktrTop]); omega) | decide +kernel); (case ku => first | ((simp only [dblC, units_deeper, units_in1, Around.mark_units]); (try dsimp only [ktrTop]); omega) | decide +kernel); (intro r9 tl9 h9 tk9 F' N' hl9 ho9); (obtain ⟨p9, a9, us9, k9, xs9, b9, us8, k8, xs8, e1, e2, hi9, hg9, hi8, hg8⟩ := ho9); (subst e1; subst e2); (simp only [List.cons_append, List.nil_append] at N'); (obtain ⟨l1, l2, l3⟩ := lt_of_three hl9); (try simp only [AllLt, and_true] at l1 l2 l3); (clear hl9); (try dsimp only at hg9 hg8)) | (k_here; (with_reducible show wpAny _ _ (PySem.call (Value.ref 60) _) _ _ _); (refine' keeps_use (d := ⟨_, _, _⟩) add_ok ?k1 ?k2 ?k3 ?k4 ?k5 ?kK ?kR ?ko ?kd ?ku ?_); (case k1 => k_asm); (case k2 => k_asm); (case k3 => k_asm); (case k4 => k_asm); (case k5 => k_asm); (case kK => first | exact rfl | assumption); (case kR => exact ⟨_, _, _, (by exact rfl), ⟨_, _, _, _, (by exact rfl), by k_memK, by assumption, by assumption⟩, ⟨_, _, _, _, (by exact rfl), by k_memK, by assumption, by assumption⟩⟩); (case ko => (refine ⟨?_, ?_, ?_, ?_⟩ <;> (try dsimp only) <;> omega)); (case kd => first | ((simp only [addC, depth_deeper, depth_in1, depth_under_make, depth_under_kw]); (try dsimp only [ktrTop]); omega) | decide +kernel); (case ku => first | ((simp only [addC, units_deeper, units_in1, Around.mark_units]); (try dsimp only [ktrTop]); omega) | decide +kernel); (intro r9 tl9 h9 tk9 F' N' hl9 ho9); (obtain ⟨a9, us9, k9, xs9, e1, e2, hi9, hg9⟩ := ho9); (subst e1; subst e2); (simp only [List.cons_append, List.nil_append] at N'); (have l1 := lt_of_one hl9); (try simp only [AllLt, and_true] at l1); (clear hl9); (try dsimp only at hg9); (have hL9 := hg9.1)) | (k_here; (with_reducible show wpAny _ _ (PySem.call (Value.ref 81) _) _ _ _); (refine' keeps_use (d := _) nc_ok ?k1 ?k2 ?k3 ?k4 ?k5 ?kK ?kR ?ko ?kd ?ku ?_); (case k1 => k_asm); (case k2 => k_asm); (case k3 => k_asm); (case k4 => k_asm); (case k5 => k_asm); (case kK => first | exact rfl | assumption); (case kR => exact ⟨_, (by exact rfl)⟩); (case ko => (show 0 ≤ _; omega)); (case kd => first | ((simp only [ncC, depth_deeper, depth_in1, depth_under_make, depth_under_kw]); (try dsimp only [ktrTop]); omega) | decide +kernel); (case ku => first | ((simp only [ncC, units_deeper, units_in1, Around.mark_units]); (try dsimp only [ktrTop]); omega) | decide +kernel); (intro r9 tl9 h9 tk9 F' N' hl9 ho9); (obtain ⟨e2, e1⟩ := ho9); (subst e1; subst e2); (simp only [List.nil_append] at N'); (clear hl9)) | ((((fail_if_success (with_reducible show wpAny _ _ (PySem.exec (Stmt.While _ _ _ _) _) _ _ _)); (fail_if_success (with_reducible show wpAny _ _ (PySem.exec (Stmt.For _ _ _ _ _) _) _ _ _)); (fail_if_success (with_reducible show wpAny _ _ (pyIter (Value.ref _)) (fun it s₂ => LoopAtV _ _ _ _ _ _ _ _ _ it s₂) _ _)); (fail_if_success (with_reducible show wpAny _ _ (pyIter (Value.ref _)) (fun it s₂ => PairAt3 _ _ _ _ _ _ _ _ _ _ it s₂) _ _)))); first | walk1 | (dsimp only; walk1)) | (leave1; walk_say "STEP leave1"; try dsimp only) | fail "no step"))
  · have hq := hfp (by assumption)
    have hk := (fp_next hx0 hx1 (by assumption) b1).1 (by assumption)
    have hE1 : fibZ (fpK dm (at_ - 1)) = fibZ (fpK dm at_) * fibZ (fpK dm at_) + fibZ (fpK dm at_ + 1) * fibZ (fpK dm at_ + 1) := by rw [hk, hq.2.1]
    have hE2 : fibZ (fpK dm (at_ - 1) + 1) = fibZ (fpK dm at_) * (2 * fibZ (fpK dm at_ + 1) - fibZ (fpK dm at_)) + (fibZ (fpK dm at_) * fibZ (fpK dm at_) + fibZ (fpK dm at_ + 1) * fibZ (fpK dm at_ + 1)) := by rw [hk, hq.1, hq.2.1]; exact hq.2.2.2.2.2.2.2.symm
    (rename News _ _ _ _ => nE'; exact fp_end (by assumption) nE' (by with_unfolding_all rfl) (by with_unfolding_all rfl) (by k_memK) (by k_memK) (by k_memK) (by intro p9 h9; kst_mem) (by assumption) (by assumption) (by intro z h1 h2 h3; first | rfl | (simp [h1, h2]; done)) (by rw [hE1]; assumption) (by rw [hE2]; assumption) (by omega) ⟨by (first | assumption | exact allLt_of (by assumption) | exact lt_app (by assumption) | exact And.right (by assumption) | exact lt_app (And.right (by assumption)) | exact And.right (And.right (by assumption)) | exact lt_app (And.right (And.right (by assumption))) | exact And.right (And.right (And.right (by assumption))) | exact lt_app (And.right (And.right (And.right (by assumption)))) | exact And.right (And.right (And.right (And.right (by assumption)))) | exact lt_app (And.right (And.right (And.right (And.right (by assumption))))) | exact And.right (And.right (And.right (And.right (And.right (by assumption))))) | exact lt_app (And.right (And.right (And.right (And.right (And.right (by assumption)))))) | exact And.right (And.right (And.right (And.right (And.right (And.right (by assumption)))))) | exact lt_app (And.right (And.right (And.right (And.right (And.right (And.right (by assumption))))))) | exact And.right (And.right (And.right (And.right (And.right (And.right (And.right (by assumption))))))) | exact lt_app (And.right (And.right (And.right (And.right (And.right (And.right (And.right (by assumption)))))))) | exact And.right (And.right (And.right (And.right (And.right (And.right (And.right (And.right (by assumption)))))))) | exact lt_app (And.right (And.right (And.right (And.right (And.right (And.right (And.right (And.right (by assumption))))))))) | exact And.right (And.right (And.right (And.right (And.right (And.right (And.right (And.right (And.right (by assumption))))))))) | exact lt_app (And.right (And.right (And.right (And.right (And.right (And.right (And.right (And.right (And.right (by assumption)))))))))) | exact And.right (And.right (And.right (And.right (And.right (And.right (And.right (And.right (And.right (And.right (by assumption)))))))))) | exact lt_app (And.right (And.right (And.right (And.right (And.right (And.right (And.right (And.right (And.right (And.right (by assumption))))))))))) | exact And.right (And.right (And.right (And.right (And.right (And.right (And.right (And.right (And.right (And.right (And.right (by assumption))))))))))) | exact lt_app (And.right (And.right (And.right (And.right (And.right (And.right (And.right (And.right (And.right (And.right (And.right (by assumption)))))))))))) | exact And.right (And.right (And.right (And.right (And.right (And.right (And.right (And.right (And.right (And.right (And.right (And.right (by assumption)))))))))))) | exact lt_app (And.right (And.right (And.right (And.right (And.right (And.right (And.right (And.right (And.right (And.right (And.right (And.right (by assumption))))))))))))) | exact And.right (And.right (And.right (And.right (And.right (And.right (And.right (And.right (And.right (And.right (And.right (And.right (And.right (by assumption))))))))))))) | exact lt_app (And.right (And.right (And.right (And.right (And.right (And.right (And.right (And.right (And.right (And.right (And.right (And.right (And.right (by assumption)))))))))))))) | exact And.right (And.right (And.right (And.right (And.right (And.right (And.right (And.right (And.right (And.right (And.right (And.right (And.right (And.right (by assumption)))))))))))))) | exact lt_app (And.right (And.right (And.right (And.right (And.right (And.right (And.right (And.right (And.right (And.right (And.right (And.right (And.right (And.right (by assumption))))))))))))))) | exact And.right (And.right (And.right (And.right (And.right (And.right (And.right (And.right (And.right (And.right (And.right (And.right (And.right (And.right (And.right (by assumption))))))))))))))) | exact lt_app (And.right (And.right (And.right (And.right (And.right (And.right (And.right (And.right (And.right (And.right (And.right (And.right (And.right (And.right (And.right (by assumption)))))))))))))))) | exact And.right (And.right (And.right (And.right (And.right (And.right (And.right (And.right (And.right (And.right (And.right (And.right (And.right (And.right (And.right (And.right (by assumption)))))))))))))))) | exact lt_app (And.right (And.right (And.right (And.right (And.right (And.right (And.right (And.right (And.right (And.right (And.right (And.right (And.right (And.right (And.right (And.right (by assumption)))))))))))))))))), by (first | assumption | exact allLt_of (by assumption) | exact lt_app (by assumption) | exact And.right (by assumption) | exact lt_app (And.right (by assumption)) | exact And.right (And.right (by assumption)) | exact lt_app (And.right (And.right (by assumption))) | exact And.right (And.right (And.right (by assumption))) | exact lt_app (And.right (And.right (And.right (by assumption)))) | exact And.right (And.right (And.right (And.right (by assumption)))) | exact lt_app (And.right (And.right (And.right (And.right (by assumption))))) | exact And.right (And.right (And.right (And.right (And.right (by assumption))))) | exact lt_app (And.right (And.right (And.right (And.right (And.right (by assumption)))))) | exact And.right (And.right (And.right (And.right (And.right (And.right (by assumption)))))) | exact lt_app (And.right (And.right (And.right (And.right (And.right (And.right (by assumption))))))) | exact And.right (And.right (And.right (And.right (And.right (And.right (And.right (by assumption))))))) | exact lt_app (And.right (And.right (And.right (And.right (And.right (And.right (And.right (by assumption)))))))) | exact And.right (And.right (And.right (And.right (And.right (And.right (And.right (And.right (by assumption)))))))) | exact lt_app (And.right (And.right (And.right (And.right (And.right (And.right (And.right (And.right (by assumption))))))))) | exact And.right (And.right (And.right (And.right (And.right (And.right (And.right (And.right (And.right (by assumption))))))))) | exact lt_app (And.right (And.right (And.right (And.right (And.right (And.right (And.right (And.right (And.right (by assumption)))))))))) | exact And.right (And.right (And.right (And.right (And.right (And.right (And.right (And.right (And.right (And.right (by assumption)))))))))) | exact lt_app (And.right (And.right (And.right (And.right (And.right (And.right (And.right (And.right (And.right (And.right (by assumption))))))))))) | exact And.right (And.right (And.right (And.right (And.right (And.right (And.right (And.right (And.right (And.right (And.right (by assumption))))))))))) | exact lt_app (And.right (And.right (And.right (And.right (And.right (And.right (And.right (And.right (And.right (And.right (And.right (by assumption)))))))))))) | exact And.right (And.right (And.right (And.right (And.right (And.right (And.right (And.right (And.right (And.right (And.right (And.right (by assumption)))))))))))) | exact lt_app (And.right (And.right (And.right (And.right (And.right (And.right (And.right (And.right (And.right (And.right (And.right (And.right (by assumption))))))))))))) | exact And.right (And.right (And.right (And.right (And.right (And.right (And.right (And.right (And.right (And.right (And.right (And.right (And.right (by assumption))))))))))))) | exact lt_app (And.right (And.right (And.right (And.right (And.right (And.right (And.right (And.right (And.right (And.right (And.right (And.right (And.right (by assumption)))))))))))))) | exact And.right (And.right (And.right (And.right (And.right (And.right (And.right (And.right (And.right (And.right (And.right (And.right (And.right (And.right (by assumption)))))))))))))) | exact lt_app (And.right (And.right (And.right (And.right (And.right (And.right (And.right (And.right (And.right (And.right (And.right (And.right (And.right (And.right (by assumption))))))))))))))) | exact And.right (And.right (And.right (And.right (And.right (And.right (And.right (And.right (And.right (And.right (And.right (And.right (And.right (And.right (And.right (by assumption))))))))))))))) | exact lt_app (And.right (And.right (And.right (And.right (And.right (And.right (And.right (And.right (And.right (And.right (And.right (And.right (And.right (And.right (And.right (by assumption)))))))))))))))) | exact And.right (And.right (And.right (And.right (And.right (And.right (And.right (And.right (And.right (And.right (And.right (And.right (And.right (And.right (And.right (And.right (by assumption)))))))))))))))) | exact lt_app (And.right (And.right (And.right (And.right (And.right (And.right (And.right (And.right (And.right (And.right (And.right (And.right (And.right (And.right (And.right (And.right (by assumption)))))))))))))))))), by (first | assumption | exact allLt_of (by assumption) | exact lt_app (by assumption) | exact And.right (by assumption) | exact lt_app (And.right (by assumption)) | exact And.right (And.right (by assumption)) | exact lt_app (And.right (And.right (by assumption))) | exact And.right (And.right (And.right (by assumption))) | exact lt_app (And.right (And.right (And.right (by assumption)))) | exact And.right (And.right (And.right (And.right (by assumption)))) | exact lt_app (And.right (And.right (And.right (And.right (by assumption))))) | exact And.right (And.right (And.right (And.right (And.right (by assumption))))) | exact lt_app (And.right (And.right (And.right (And.right (And.right (by assumption)))))) | exact And.right (And.right (And.right (And.right (And.right (And.right (by assumption)))))) | exact lt_app (And.right (And.right (And.right (And.right (And.right (And.right (by assumption))))))) | exact And.right (And.right (And.right (And.right (And.right (And.right (And.right (by assumption))))))) | exact lt_app (And.right (And.right (And.right (And.right (And.right (And.right (And.right (by assumption)))))))) | exact And.right (And.right (And.right (And.right (And.right (And.right (And.right (And.right (by assumption)))))))) | exact lt_app (And.right (And.right (And.right (And.right (And.right (And.right (And.right (And.right (by assumption))))))))) | exact And.right (And.right (And.right (And.right (And.right (And.right (And.right (And.right (And.right (by assumption))))))))) | exact lt_app (And.right (And.right (And.right (And.right (And.right (And.right (And.right (And.right (And.right (by assumption)))))))))) | exact And.right (And.right (And.right (And.right (And.right (And.right (And.right (And.right (And.right (And.right (by assumption)))))))))) | exact lt_app (And.right (And.right (And.right (And.right (And.right (And.right (And.right (And.right (And.right (And.right (by assumption))))))))))) | exact And.right (And.right (And.right (And.right (And.right (And.right (And.right (And.right (And.right (And.right (And.right (by assumption))))))))))) | exact lt_app (And.right (And.right (And.right (And.right (And.right (And.right (And.right (And.right (And.right (And.right (And.right (by assumption)))))))))))) | exact And.right (And.right (And.right (And.right (And.right (And.right (And.right (And.right (And.right (And.right (And.right (And.right (by assumption)))))))))))) | exact lt_app (And.right (And.right (And.right (And.right (And.right (And.right (And.right (And.right (And.right (And.right (And.right (And.right (by assumption))))))))))))) | exact And.right (And.right (And.right (And.right (And.right (And.right (And.right (And.right (And.right (And.right (And.right (And.right (And.right (by assumption))))))))))))) | exact lt_app (And.right (And.right (And.right (And.right (And.right (And.right (And.right (And.right (And.right (And.right (And.right (And.right (And.right (by assumption)))))))))))))) | exact And.right (And.right (And.right (And.right (And.right (And.right (And.right (And.right (And.right (And.right (And.right (And.right (And.right (And.right (by assumption)))))))))))))) | exact lt_app (And.right (And.right (And.right (And.right (And.right (And.right (And.right (And.right (And.right (And.right (And.right (And.right (And.right (And.right (by assumption))))))))))))))) | exact And.right (And.right (And.right (And.right (And.right (And.right (And.right (And.right (And.right (And.right (And.right (And.right (And.right (And.right (And.right (by assumption))))))))))))))) | exact lt_app (And.right (And.right (And.right (And.right (And.right (And.right (And.right (And.right (And.right (And.right (And.right (And.right (And.right (And.right (And.right (by assumption)))))))))))))))) | exact And.right (And.right (And.right (And.right (And.right (And.right (And.right (And.right (And.right (And.right (And.right (And.right (And.right (And.right (And.right (And.right (by assumption)))))))))))))))) | exact lt_app (And.right (And.right (And.right (And.right (And.right (And.right (And.right (And.right (And.right (And.right (And.right (And.right (And.right (And.right (And.right (And.right (by assumption))))))))))))))))))⟩ (by dsimp only; omega))
  · have hq := hfp (by assumption)
    have hk := (fp_next hx0 hx1 (by assumption) b1).2 (by assumption)
    have hE1 : fibZ (fpK dm (at_ - 1)) = fibZ (fpK dm at_) * (2 * fibZ (fpK dm at_ + 1) - fibZ (fpK dm at_)) := by rw [hk, hq.1]
    have hE2 : fibZ (fpK dm (at_ - 1) + 1) = fibZ (fpK dm at_) * fibZ (fpK dm at_) + fibZ (fpK dm at_ + 1) * fibZ (fpK dm at_ + 1) := by rw [hk, hq.2.1]
    (rename News _ _ _ _ => nE'; exact fp_end (by assumption) nE' (by with_unfolding_all rfl) (by with_unfolding_all rfl) (by k_memK) (by k_memK) (by k_memK) (by intro p9 h9; kst_mem) (by assumption) (by assumption) (by intro z h1 h2 h3; first | rfl | (simp [h1, h2]; done)) (by rw [hE1]; assumption) (by rw [hE2]; assumption) (by omega) ⟨by (first | assumption | exact allLt_of (by assumption) | exact lt_app (by assumption) | exact And.right (by assumption) | exact lt_app (And.right (by assumption)) | exact And.right (And.right (by assumption)) | exact lt_app (And.right (And.right (by assumption))) | exact And.right (And.right (And.right (by assumption))) | exact lt_app (And.right (And.right (And.right (by assumption)))) | exact And.right (And.right (And.right (And.right (by assumption)))) | exact lt_app (And.right (And.right (And.right (And.right (by assumption))))) | exact And.right (And.right (And.right (And.right (And.right (by assumption))))) | exact lt_app (And.right (And.right (And.right (And.right (And.right (by assumption)))))) | exact And.right (And.right (And.right (And.right (And.right (And.right (by assumption)))))) | exact lt_app (And.right (And.right (And.right (And.right (And.right (And.right (by assumption))))))) | exact And.right (And.right (And.right (And.right (And.right (And.right (And.right (by assumption))))))) | exact lt_app (And.right (And.right (And.right (And.right (And.right (And.right (And.right (by assumption)))))))) | exact And.right (And.right (And.right (And.right (And.right (And.right (And.right (And.right (by assumption)))))))) | exact lt_app (And.right (And.right (And.right (And.right (And.right (And.right (And.right (And.right (by assumption))))))))) | exact And.right (And.right (And.right (And.right (And.right (And.right (And.right (And.right (And.right (by assumption))))))))) | exact lt_app (And.right (And.right (And.right (And.right (And.right (And.right (And.right (And.right (And.right (by assumption)))))))))) | exact And.right (And.right (And.right (And.right (And.right (And.right (And.right (And.right (And.right (And.right (by assumption)))))))))) | exact lt_app (And.right (And.right (And.right (And.right (And.right (And.right (And.right (And.right (And.right (And.right (by assumption))))))))))) | exact And.right (And.right (And.right (And.right (And.right (And.right (And.right (And.right (And.right (And.right (And.right (by assumption))))))))))) | exact lt_app (And.right (And.right (And.right (And.right (And.right (And.right (And.right (And.right (And.right (And.right (And.right (by assumption)))))))))))) | exact And.right (And.right (And.right (And.right (And.right (And.right (And.right (And.right (And.right (And.right (And.right (And.right (by assumption)))))))))))) | exact lt_app (And.right (And.right (And.right (And.right (And.right (And.right (And.right (And.right (And.right (And.right (And.right (And.right (by assumption))))))))))))) | exact And.right (And.right (And.right (And.right (And.right (And.right (And.right (And.right (And.right (And.right (And.right (And.right (And.right (by assumption))))))))))))) | exact lt_app (And.right (And.right (And.right (And.right (And.right (And.right (And.right (And.right (And.right (And.right (And.right (And.right (And.right (by assumption)))))))))))))) | exact And.right (And.right (And.right (And.right (And.right (And.right (And.right (And.right (And.right (And.right (And.right (And.right (And.right (And.right (by assumption)))))))))))))) | exact lt_app (And.right (And.right (And.right (And.right (And.right (And.right (And.right (And.right (And.right (And.right (And.right (And.right (And.right (And.right (by assumption))))))))))))))) | exact And.right (And.right (And.right (And.right (And.right (And.right (And.right (And.right (And.right (And.right (And.right (And.right (And.right (And.right (And.right (by assumption))))))))))))))) | exact lt_app (And.right (And.right (And.right (And.right (And.right (And.right (And.right (And.right (And.right (And.right (And.right (And.right (And.right (And.right (And.right (by assumption)))))))))))))))) | exact And.right (And.right (And.right (And.right (And.right (And.right (And.right (And.right (And.right (And.right (And.right (And.right (And.right (And.right (And.right (And.right (by assumption)))))))))))))))) | exact lt_app (And.right (And.right (And.right (And.right (And.right (And.right (And.right (And.right (And.right (And.right (And.right (And.right (And.right (And.right (And.right (And.right (by assumption)))))))))))))))))), by (first | assumption | exact allLt_of (by assumption) | exact lt_app (by assumption) | exact And.right (by assumption) | exact lt_app (And.right (by assumption)) | exact And.right (And.right (by assumption)) | exact lt_app (And.right (And.right (by assumption))) | exact And.right (And.right (And.right (by assumption))) | exact lt_app (And.right (And.right (And.right (by assumption)))) | exact And.right (And.right (And.right (And.right (by assumption)))) | exact lt_app (And.right (And.right (And.right (And.right (by assumption))))) | exact And.right (And.right (And.right (And.right (And.right (by assumption))))) | exact lt_app (And.right (And.right (And.right (And.right (And.right (by assumption)))))) | exact And.right (And.right (And.right (And.right (And.right (And.right (by assumption)))))) | exact lt_app (And.right (And.right (And.right (And.right (And.right (And.right (by assumption))))))) | exact And.right (And.right (And.right (And.right (And.right (And.right (And.right (by assumption))))))) | exact lt_app (And.right (And.right (And.right (And.right (And.right (And.right (And.right (by assumption)))))))) | exact And.right (And.right (And.right (And.right (And.right (And.right (And.right (And.right (by assumption)))))))) | exact lt_app (And.right (And.right (And.right (And.right (And.right (And.right (And.right (And.right (by assumption))))))))) | exact And.right (And.right (And.right (And.right (And.right (And.right (And.right (And.right (And.right (by assumption))))))))) | exact lt_app (And.right (And.right (And.right (And.right (And.right (And.right (And.right (And.right (And.right (by assumption)))))))))) | exact And.right (And.right (And.right (And.right (And.right (And.right (And.right (And.right (And.right (And.right (by assumption)))))))))) | exact lt_app (And.right (And.right (And.right (And.right (And.right (And.right (And.right (And.right (And.right (And.right (by assumption))))))))))) | exact And.right (And.right (And.right (And.right (And.right (And.right (And.right (And.right (And.right (And.right (And.right (by assumption))))))))))) | exact lt_app (And.right (And.right (And.right (And.right (And.right (And.right (And.right (And.right (And.right (And.right (And.right (by assumption)))))))))))) | exact And.right (And.right (And.right (And.right (And.right (And.right (And.right (And.right (And.right (And.right (And.right (And.right (by assumption)))))))))))) | exact lt_app (And.right (And.right (And.right (And.right (And.right (And.right (And.right (And.right (And.right (And.right (And.right (And.right (by assumption))))))))))))) | exact And.right (And.right (And.right (And.right (And.right (And.right (And.right (And.right (And.right (And.right (And.right (And.right (And.right (by assumption))))))))))))) | exact lt_app (And.right (And.right (And.right (And.right (And.right (And.right (And.right (And.right (And.right (And.right (And.right (And.right (And.right (by assumption)))))))))))))) | exact And.right (And.right (And.right (And.right (And.right (And.right (And.right (And.right (And.right (And.right (And.right (And.right (And.right (And.right (by assumption)))))))))))))) | exact lt_app (And.right (And.right (And.right (And.right (And.right (And.right (And.right (And.right (And.right (And.right (And.right (And.right (And.right (And.right (by assumption))))))))))))))) | exact And.right (And.right (And.right (And.right (And.right (And.right (And.right (And.right (And.right (And.right (And.right (And.right (And.right (And.right (And.right (by assumption))))))))))))))) | exact lt_app (And.right (And.right (And.right (And.right (And.right (And.right (And.right (And.right (And.right (And.right (And.right (And.right (And.right (And.right (And.right (by assumption)))))))))))))))) | exact And.right (And.right (And.right (And.right (And.right (And.right (And.right (And.right (And.right (And.right (And.right (And.right (And.right (And.right (And.right (And.right (by assumption)))))))))))))))) | exact lt_app (And.right (And.right (And.right (And.right (And.right (And.right (And.right (And.right (And.right (And.right (And.right (And.right (And.right (And.right (And.right (And.right (by assumption)))))))))))))))))), by (first | assumption | exact allLt_of (by assumption) | exact lt_app (by assumption) | exact And.right (by assumption) | exact lt_app (And.right (by assumption)) | exact And.right (And.right (by assumption)) | exact lt_app (And.right (And.right (by assumption))) | exact And.right (And.right (And.right (by assumption))) | exact lt_app (And.right (And.right (And.right (by assumption)))) | exact And.right (And.right (And.right (And.right (by assumption)))) | exact lt_app (And.right (And.right (And.right (And.right (by assumption))))) | exact And.right (And.right (And.right (And.right (And.right (by assumption))))) | exact lt_app (And.right (And.right (And.right (And.right (And.right (by assumption)))))) | exact And.right (And.right (And.right (And.right (And.right (And.right (by assumption)))))) | exact lt_app (And.right (And.right (And.right (And.right (And.right (And.right (by assumption))))))) | exact And.right (And.right (And.right (And.right (And.right (And.right (And.right (by assumption))))))) | exact lt_app (And.right (And.right (And.right (And.right (And.right (And.right (And.right (by assumption)))))))) | exact And.right (And.right (And.right (And.right (And.right (And.right (And.right (And.right (by assumption)))))))) | exact lt_app (And.right (And.right (And.right (And.right (And.right (And.right (And.right (And.right (by assumption))))))))) | exact And.right (And.right (And.right (And.right (And.right (And.right (And.right (And.right (And.right (by assumption))))))))) | exact lt_app (And.right (And.right (And.right (And.right (And.right (And.right (And.right (And.right (And.right (by assumption)))))))))) | exact And.right (And.right (And.right (And.right (And.right (And.right (And.right (And.right (And.right (And.right (by assumption)))))))))) | exact lt_app (And.right (And.right (And.right (And.right (And.right (And.right (And.right (And.right (And.right (And.right (by assumption))))))))))) | exact And.right (And.right (And.right (And.right (And.right (And.right (And.right (And.right (And.right (And.right (And.right (by assumption))))))))))) | exact lt_app (And.right (And.right (And.right (And.right (And.right (And.right (And.right (And.right (And.right (And.right (And.right (by assumption)))))))))))) | exact And.right (And.right (And.right (And.right (And.right (And.right (And.right (And.right (And.right (And.right (And.right (And.right (by assumption)))))))))))) | exact lt_app (And.right (And.right (And.right (And.right (And.right (And.right (And.right (And.right (And.right (And.right (And.right (And.right (by assumption))))))))))))) | exact And.right (And.right (And.right (And.right (And.right (And.right (And.right (And.right (And.right (And.right (And.right (And.right (And.right (by assumption))))))))))))) | exact lt_app (And.right (And.right (And.right (And.right (And.right (And.right (And.right (And.right (And.right (And.right (And.right (And.right (And.right (by assumption)))))))))))))) | exact And.right (And.right (And.right (And.right (And.right (And.right (And.right (And.right (And.right (And.right (And.right (And.right (And.right (And.right (by assumption)))))))))))))) | exact lt_app (And.right (And.right (And.right (And.right (And.right (And.right (And.right (And.right (And.right (And.right (And.right (And.right (And.right (And.right (by assumption))))))))))))))) | exact And.right (And.right (And.right (And.right (And.right (And.right (And.right (And.right (And.right (And.right (And.right (And.right (And.right (And.right (And.right (by assumption))))))))))))))) | exact lt_app (And.right (And.right (And.right (And.right (And.right (And.right (And.right (And.right (And.right (And.right (And.right (And.right (And.right (And.right (And.right (by assumption)))))))))))))))) | exact And.right (And.right (And.right (And.right (And.right (And.right (And.right (And.right (And.right (And.right (And.right (And.right (And.right (And.right (And.right (And.right (by assumption)))))))))))))))) | exact lt_app (And.right (And.right (And.right (And.right (And.right (And.right (And.right (And.right (And.right (And.right (And.right (And.right (And.right (And.right (And.right (And.right (by assumption))))))))))))))))))⟩ (by dsimp only; omega))
  have hend : fpK dm at_ = dm.toNat := fp_last (by omega)
  rw [hend] at d1 d2
  (
    (rename News _ _ _ _ => kN9)
    (refine' hret _ [(_, tup2 (.ref _) (.ref _)), (_, listOf (List.toArray _) _), (_, listOf (List.toArray _) _)] _ _ (by assumption) (made_three kN9 ?hin1 ?hin2 ?hin3 ?hsub) (ord_three ?hlt1 ?hlt2 ?hlt3) ⟨_, _, _, _, _, _, _, _, _, rfl, rfl, ?hi1, ?hd1, ?hi2, ?hd2⟩)
    case hin1 => k_memK
    case hin2 => k_memK
    case hin3 => k_memK
    case hsub => (intro p9 h9; kst_mem)
    case hlt1 => (first | assumption | exact allLt_of (by assumption) | exact lt_app (by assumption) | exact And.right (by assumption) | exact lt_app (And.right (by assumption)) | exact And.right (And.right (by assumption)) | exact lt_app (And.right (And.right (by assumption))) | exact And.right (And.right (And.right (by assumption))) | exact lt_app (And.right (And.right (And.right (by assumption)))) | exact And.right (And.right (And.right (And.right (by assumption)))) | exact lt_app (And.right (And.right (And.right (And.right (by assumption))))) | exact And.right (And.right (And.right (And.right (And.right (by assumption))))) | exact lt_app (And.right (And.right (And.right (And.right (And.right (by assumption)))))) | exact And.right (And.right (And.right (And.right (And.right (And.right (by assumption)))))) | exact lt_app (And.right (And.right (And.right (And.right (And.right (And.right (by assumption))))))) | exact And.right (And.right (And.right (And.right (And.right (And.right (And.right (by assumption))))))) | exact lt_app (And.right (And.right (And.right (And.right (And.right (And.right (And.right (by assumption)))))))) | exact And.right (And.right (And.right (And.right (And.right (And.right (And.right (And.right (by assumption)))))))) | exact lt_app (And.right (And.right (And.right (And.right (And.right (And.right (And.right (And.right (by assumption))))))))) | exact And.right (And.right (And.right (And.right (And.right (And.right (And.right (And.right (And.right (by assumption))))))))) | exact lt_app (And.right (And.right (And.right (And.right (And.right (And.right (And.right (And.right (And.right (by assumption)))))))))) | exact And.right (And.right (And.right (And.right (And.right (And.right (And.right (And.right (And.right (And.right (by assumption)))))))))) | exact lt_app (And.right (And.right (And.right (And.right (And.right (And.right (And.right (And.right (And.right (And.right (by assumption))))))))))) | exact And.right (And.right (And.right (And.right (And.right (And.right (And.right (And.right (And.right (And.right (And.right (by assumption))))))))))) | exact lt_app (And.right (And.right (And.right (And.right (And.right (And.right (And.right (And.right (And.right (And.right (And.right (by assumption)))))))))))) | exact And.right (And.right (And.right (And.right (And.right (And.right (And.right (And.right (And.right (And.right (And.right (And.right (by assumption)))))))))))) | exact lt_app (And.right (And.right (And.right (And.right (And.right (And.right (And.right (And.right (And.right (And.right (And.right (And.right (by assumption))))))))))))) | exact And.right (And.right (And.right (And.right (And.right (And.right (And.right (And.right (And.right (And.right (And.right (And.right (And.right (by assumption))))))))))))) | exact lt_app (And.right (And.right (And.right (And.right (And.right (And.right (And.right (And.right (And.right (And.right (And.right (And.right (And.right (by assumption)))))))))))))) | exact And.right (And.right (And.right (And.right (And.right (And.right (And.right (And.right (And.right (And.right (And.right (And.right (And.right (And.right (by assumption)))))))))))))) | exact lt_app (And.right (And.right (And.right (And.right (And.right (And.right (And.right (And.right (And.right (And.right (And.right (And.right (And.right (And.right (by assumption))))))))))))))) | exact And.right (And.right (And.right (And.right (And.right (And.right (And.right (And.right (And.right (And.right (And.right (And.right (And.right (And.right (And.right (by assumption))))))))))))))) | exact lt_app (And.right (And.right (And.right (And.right (And.right (And.right (And.right (And.right (And.right (And.right (And.right (And.right (And.right (And.right (And.right (by assumption)))))))))))))))) | exact And.right (And.right (And.right (And.right (And.right (And.right (And.right (And.right (And.right (And.right (And.right (And.right (And.right (And.right (And.right (And.right (by assumption)))))))))))))))) | exact lt_app (And.right (And.right (And.right (And.right (And.right (And.right (And.right (And.right (And.right (And.right (And.right (And.right (And.right (And.right (And.right (And.right (by assumption))))))))))))))))))
    case hlt2 => (first | assumption | exact allLt_of (by assumption) | exact lt_app (by assumption) | exact And.right (by assumption) | exact lt_app (And.right (by assumption)) | exact And.right (And.right (by assumption)) | exact lt_app (And.right (And.right (by assumption))) | exact And.right (And.right (And.right (by assumption))) | exact lt_app (And.right (And.right (And.right (by assumption)))) | exact And.right (And.right (And.right (And.right (by assumption)))) | exact lt_app (And.right (And.right (And.right (And.right (by assumption))))) | exact And.right (And.right (And.right (And.right (And.right (by assumption))))) | exact lt_app (And.right (And.right (And.right (And.right (And.right (by assumption)))))) | exact And.right (And.right (And.right (And.right (And.right (And.right (by assumption)))))) | exact lt_app (And.right (And.right (And.right (And.right (And.right (And.right (by assumption))))))) | exact And.right (And.right (And.right (And.right (And.right (And.right (And.right (by assumption))))))) | exact lt_app (And.right (And.right (And.right (And.right (And.right (And.right (And.right (by assumption)))))))) | exact And.right (And.right (And.right (And.right (And.right (And.right (And.right (And.right (by assumption)))))))) | exact lt_app (And.right (And.right (And.right (And.right (And.right (And.right (And.right (And.right (by assumption))))))))) | exact And.right (And.right (And.right (And.right (And.right (And.right (And.right (And.right (And.right (by assumption))))))))) | exact lt_app (And.right (And.right (And.right (And.right (And.right (And.right (And.right (And.right (And.right (by assumption)))))))))) | exact And.right (And.right (And.right (And.right (And.right (And.right (And.right (And.right (And.right (And.right (by assumption)))))))))) | exact lt_app (And.right (And.right (And.right (And.right (And.right (And.right (And.right (And.right (And.right (And.right (by assumption))))))))))) | exact And.right (And.right (And.right (And.right (And.right (And.right (And.right (And.right (And.right (And.right (And.right (by assumption))))))))))) | exact lt_app (And.right (And.right (And.right (And.right (And.right (And.right (And.right (And.right (And.right (And.right (And.right (by assumption)))))))))))) | exact And.right (And.right (And.right (And.right (And.right (And.right (And.right (And.right (And.right (And.right (And.right (And.right (by assumption)))))))))))) | exact lt_app (And.right (And.right (And.right (And.right (And.right (And.right (And.right (And.right (And.right (And.right (And.right (And.right (by assumption))))))))))))) | exact And.right (And.right (And.right (And.right (And.right (And.right (And.right (And.right (And.right (And.right (And.right (And.right (And.right (by assumption))))))))))))) | exact lt_app (And.right (And.right (And.right (And.right (And.right (And.right (And.right (And.right (And.right (And.right (And.right (And.right (And.right (by assumption)))))))))))))) | exact And.right (And.right (And.right (And.right (And.right (And.right (And.right (And.right (And.right (And.right (And.right (And.right (And.right (And.right (by assumption)))))))))))))) | exact lt_app (And.right (And.right (And.right (And.right (And.right (And.right (And.right (And.right (And.right (And.right (And.right (And.right (And.right (And.right (by assumption))))))))))))))) | exact And.right (And.right (And.right (And.right (And.right (And.right (And.right (And.right (And.right (And.right (And.right (And.right (And.right (And.right (And.right (by assumption))))))))))))))) | exact lt_app (And.right (And.right (And.right (And.right (And.right (And.right (And.right (And.right (And.right (And.right (And.right (And.right (And.right (And.right (And.right (by assumption)))))))))))))))) | exact And.right (And.right (And.right (And.right (And.right (And.right (And.right (And.right (And.right (And.right (And.right (And.right (And.right (And.right (And.right (And.right (by assumption)))))))))))))))) | exact lt_app (And.right (And.right (And.right (And.right (And.right (And.right (And.right (And.right (And.right (And.right (And.right (And.right (And.right (And.right (And.right (And.right (by assumption))))))))))))))))))
    case hlt3 => (first | assumption | exact allLt_of (by assumption) | exact lt_app (by assumption) | exact And.right (by assumption) | exact lt_app (And.right (by assumption)) | exact And.right (And.right (by assumption)) | exact lt_app (And.right (And.right (by assumption))) | exact And.right (And.right (And.right (by assumption))) | exact lt_app (And.right (And.right (And.right (by assumption)))) | exact And.right (And.right (And.right (And.right (by assumption)))) | exact lt_app (And.right (And.right (And.right (And.right (by assumption))))) | exact And.right (And.right (And.right (And.right (And.right (by assumption))))) | exact lt_app (And.right (And.right (And.right (And.right (And.right (by assumption)))))) | exact And.right (And.right (And.right (And.right (And.right (And.right (by assumption)))))) | exact lt_app (And.right (And.right (And.right (And.right (And.right (And.right (by assumption))))))) | exact And.right (And.right (And.right (And.right (And.right (And.right (And.right (by assumption))))))) | exact lt_app (And.right (And.right (And.right (And.right (And.right (And.right (And.right (by assumption)))))))) | exact And.right (And.right (And.right (And.right (And.right (And.right (And.right (And.right (by assumption)))))))) | exact lt_app (And.right (And.right (And.right (And.right (And.right (And.right (And.right (And.right (by assumption))))))))) | exact And.right (And.right (And.right (And.right (And.right (And.right (And.right (And.right (And.right (by assumption))))))))) | exact lt_app (And.right (And.right (And.right (And.right (And.right (And.right (And.right (And.right (And.right (by assumption)))))))))) | exact And.right (And.right (And.right (And.right (And.right (And.right (And.right (And.right (And.right (And.right (by assumption)))))))))) | exact lt_app (And.right (And.right (And.right (And.right (And.right (And.right (And.right (And.right (And.right (And.right (by assumption))))))))))) | exact And.right (And.right (And.right (And.right (And.right (And.right (And.right (And.right (And.right (And.right (And.right (by assumption))))))))))) | exact lt_app (And.right (And.right (And.right (And.right (And.right (And.right (And.right (And.right (And.right (And.right (And.right (by assumption)))))))))))) | exact And.right (And.right (And.right (And.right (And.right (And.right (And.right (And.right (And.right (And.right (And.right (And.right (by assumption)))))))))))) | exact lt_app (And.right (And.right (And.right (And.right (And.right (And.right (And.right (And.right (And.right (And.right (And.right (And.right (by assumption))))))))))))) | exact And.right (And.right (And.right (And.right (And.right (And.right (And.right (And.right (And.right (And.right (And.right (And.right (And.right (by assumption))))))))))))) | exact lt_app (And.right (And.right (And.right (And.right (And.right (And.right (And.right (And.right (And.right (And.right (And.right (And.right (And.right (by assumption)))))))))))))) | exact And.right (And.right (And.right (And.right (And.right (And.right (And.right (And.right (And.right (And.right (And.right (And.right (And.right (And.right (by assumption)))))))))))))) | exact lt_app (And.right (And.right (And.right (And.right (And.right (And.right (And.right (And.right (And.right (And.right (And.right (And.right (And.right (And.right (by assumption))))))))))))))) | exact And.right (And.right (And.right (And.right (And.right (And.right (And.right (And.right (And.right (And.right (And.right (And.right (And.right (And.right (And.right (by assumption))))))))))))))) | exact lt_app (And.right (And.right (And.right (And.right (And.right (And.right (And.right (And.right (And.right (And.right (And.right (And.right (And.right (And.right (And.right (by assumption)))))))))))))))) | exact And.right (And.right (And.right (And.right (And.right (And.right (And.right (And.right (And.right (And.right (And.right (And.right (And.right (And.right (And.right (And.right (by assumption)))))))))))))))) | exact lt_app (And.right (And.right (And.right (And.right (And.right (And.right (And.right (And.right (And.right (And.right (And.right (And.right (And.right (And.right (And.right (And.right (by assumption))))))))))))))))))
    case hi1 => assumption
    case hi2 => assumption
    case hd1 => assumption 
    case hd2 =>  assumption)
end
/- part fib -/
section
theorem fib_ok : Keeps 102 fibC := by
  w_top off
  unfold Keeps
  k_fill
  intro w mean mg mb d dp un gd cn cs a ccd cl outer A₀ base h₀ L m news s vs Q E B F X N T hk hR hok hd hu hret
  obtain ⟨wd, dm⟩ := d
  obtain ⟨tn, tw, rfl⟩ := hR
  dsimp only [fibC] at hok hd hu hret ⊢
  obtain ⟨hw1, hw2, hx0, hx1⟩ := hok
  refine wpAny_call ?_
  k_dflt ktr_enter
  have kMark := kstMark
  rename_i N' _ _ _
  k_with_none
  (repeat' (first | (k_unfold; (try dsimp only)) | (k_end; wrow_close) | (k_here; (with_reducible show wpAny _ _ (PySem.call (Value.ref 95) _) _ _ _); (refine keeps_use (d := ⟨_, _⟩) fp_ok (by k_asm) (by k_asm) (by k_asm) (by k_asm) (by k_asm) (by first | exact rfl | assumption) (by exact ⟨_, _, (by exact rfl)⟩) (by (refine ⟨?_, ?_, ?_, ?_⟩ <;> (try dsimp only) <;> omega)) (by first | ((simp only [fpC, depth_deeper, depth_in1, depth_under_make, depth_under_kw]); (try dsimp only [ktrTop]); omega) | decide +kernel) (by first | ((simp only [fpC, units_deeper, units_in1, Around.mark_units]); (try dsimp only [ktrTop]); omega) | decide +kernel) ?_); (intro r9 tl9 h9 tk9 F' N' hl9 ho9); (obtain ⟨p9, a9, us9, k9, xs9, b9, us8, k8, xs8, e1, e2, hi9, hg9, hi8, hg8⟩ := ho9); (subst e1; subst e2); (simp only [List.cons_append, List.nil_append] at N'); (obtain ⟨l1, l2, l3⟩ := lt_of_three hl9); (try simp only [AllLt, and_true] at l1 l2 l3); (clear hl9); (try dsimp only at hg9 hg8)) | ((((fail_if_success (with_reducible show wpAny _ _ (PySem.exec (Stmt.While _ _ _ _) _) _ _ _)); (fail_if_success (with_reducible show wpAny _ _ (PySem.exec (Stmt.For _ _ _ _ _) _) _ _ _)); (fail_if_success (with_reducible show wpAny _ _ (pyIter (Value.ref _)) (fun it s₂ => LoopAtV _ _ _ _ _ _ _ _ _ it s₂) _ _)); (fail_if_success (with_reducible show wpAny _ _ (pyIter (Value.ref _)) (fun it s₂ => PairAt3 _ _ _ _ _ _ _ _ _ _ it s₂) _ _)))); first | walk1 | (dsimp only; walk1)) | (leave1; walk_say "STEP leave1"; try dsimp only) | fail "no step"))
  (
    (rename News _ _ _ _ => kN9)
    (try simp only [List.push_toArray] at kN9)
    (refine' hret _ [(_, listOf (List.toArray _) _)] _ _ (by assumption) (made_one kN9 ?hin ?hsub) (ord_one ?hlt) ⟨_, _, _, _, rfl, rfl, ?hi, ?hd⟩)
    case hin => k_memK
    case hsub => (intro p9 h9; kst_mem)
    case hlt => (first | assumption | exact allLt_of (by assumption) | exact lt_app (by assumption) | exact And.right (by assumption) | exact lt_app (And.right (by assumption)) | exact And.right (And.right (by assumption)) | exact lt_app (And.right (And.right (by assumption))) | exact And.right (And.right (And.right (by assumption))) | exact lt_app (And.right (And.right (And.right (by assumption)))) | exact And.right (And.right (And.right (And.right (by assumption)))) | exact lt_app (And.right (And.right (And.right (And.right (by assumption))))) | exact And.right (And.right (And.right (And.right (And.right (by assumption))))) | exact lt_app (And.right (And.right (And.right (And.right (And.right (by assumption)))))) | exact And.right (And.right (And.right (And.right (And.right (And.right (by assumption)))))) | exact lt_app (And.right (And.right (And.right (And.right (And.right (And.right (by assumption))))))) | exact And.right (And.right (And.right (And.right (And.right (And.right (And.right (by assumption))))))) | exact lt_app (And.right (And.right (And.right (And.right (And.right (And.right (And.right (by assumption)))))))) | exact And.right (And.right (And.right (And.right (And.right (And.right (And.right (And.right (by assumption)))))))) | exact lt_app (And.right (And.right (And.right (And.right (And.right (And.right (And.right (And.right (by assumption))))))))) | exact And.right (And.right (And.right (And.right (And.right (And.right (And.right (And.right (And.right (by assumption))))))))) | exact lt_app (And.right (And.right (And.right (And.right (And.right (And.right (And.right (And.right (And.right (by assumption)))))))))) | exact And.right (And.right (And.right (And.right (And.right (And.right (And.right (And.right (And.right (And.right (by assumption)))))))))) | exact lt_app (And.right (And.right (And.right (And.right (And.right (And.right (And.right (And.right (And.right (And.right (by assumption))))))))))) | exact And.right (And.right (And.right (And.right (And.right (And.right (And.right (And.right (And.right (And.right (And.right (by assumption))))))))))) | exact lt_app (And.right (And.right (And.right (And.right (And.right (And.right (And.right (And.right (And.right (And.right (And.right (by assumption)))))))))))) | exact And.right (And.right (And.right (And.right (And.right (And.right (And.right (And.right (And.right (And.right (And.right (And.right (by assumption)))))))))))) | exact lt_app (And.right (And.right (And.right (And.right (And.right (And.right (And.right (And.right (And.right (And.right (And.right (And.right (by assumption))))))))))))) | exact And.right (And.right (And.right (And.right (And.right (And.right (And.right (And.right (And.right (And.right (And.right (And.right (And.right (by assumption))))))))))))) | exact lt_app (And.right (And.right (And.right (And.right (And.right (And.right (And.right (And.right (And.right (And.right (And.right (And.right (And.right (by assumption)))))))))))))) | exact And.right (And.right (And.right (And.right (And.right (And.right (And.right (And.right (And.right (And.right (And.right (And.right (And.right (And.right (by assumption)))))))))))))) | exact lt_app (And.right (And.right (And.right (And.right (And.right (And.right (And.right (And.right (And.right (And.right (And.right (And.right (And.right (And.right (by assumption))))))))))))))) | exact And.right (And.right (And.right (And.right (And.right (And.right (And.right (And.right (And.right (And.right (And.right (And.right (And.right (And.right (And.right (by assumption))))))))))))))) | exact lt_app (And.right (And.right (And.right (And.right (And.right (And.right (And.right (And.right (And.right (And.right (And.right (And.right (And.right (And.right (And.right (by assumption)))))))))))))))) | exact And.right (And.right (And.right (And.right (And.right (And.right (And.right (And.right (And.right (And.right (And.right (And.right (And.right (And.right (And.right (And.right (by assumption)))))))))))))))) | exact lt_app (And.right (And.right (And.right (And.right (And.right (And.right (And.right (And.right (And.right (And.right (And.right (And.right (And.right (And.right (And.right (And.right (by assumption))))))))))))))))))
    case hi => first | exact .nil | assumption | kst_facts
    case hd => assumption)
end
/- part more -/
section
noncomputable def fltG (K : Int) (l : List Int) (k : Int) : List Int := if (k != K) = true then l ++ [k] else l
theorem fltG_eq (K : Int) (ns : List Int) : ns.foldl (fltG K) [] = ns.filter (· != K) := by
  have : ∀ (ns acc : List Int), ns.foldl (fltG K) acc = acc ++ ns.filter (· != K) := by
    intro ns
    induction ns with
    | nil => intro acc; simp
    | cons a r ih =>
      intro acc
      rw [List.foldl_cons, ih, List.filter_cons]
      unfold fltG
      split <;> simp_all
  simpa using this ns []
theorem fltG_grows (K : Int) : KPfGrows (fltG K) := by
  intro l k
  unfold fltG
  split <;> simp
theorem fltG_yes {K k : Int} {l : List Int} (h : ¬ k = K) : fltG K l k = l ++ [k] := by
  unfold fltG; rw [if_pos (by simpa using h)]
theorem fltG_no {K k : Int} {l : List Int} (h : k = K) : fltG K l k = l := by
  unfold fltG; rw [if_neg (by simpa using h)]
local macro_rules | `(tactic| walk_at "CompEnd") => `(tactic| first
  | exact LCg.CompEnd.intro (by assumption) (by assumption) _ (fun _ h => h) (by assumption) (Or.inr ⟨_, by k_memK, rfl, _, rfl⟩) (kci_el (fltG_yes (by first | assumption | omega)) rfl rfl)
  | exact LCg.CompEnd.intro (by assumption) (by assumption) _ (fun _ h => h) (by assumption) (Or.inr ⟨_, by k_memK, rfl, _, rfl⟩) (kci_no (fltG_no (by first | assumption | omega)) rfl))
structure OmS where
  a : Addr
  us : List Value
  k : Nat
  xs : List Int
  o : Obj
  p : Int
  tk : Nat
noncomputable def OmSt (d : List Int) (p : Int) (xs : List Int) : Prop := omAll d = omLoop (omFuel p) p xs ∧ p ≤ 22 ∧ xs.length < 50 ∧ ∀ x ∈ xs, x ≤ 20
theorem om_flt {xs : List Int} {K : Int} (hl : xs.length < 50) (h : ∀ x ∈ xs, x ≤ 20) : (xs.filter (· != K)).length < 50 ∧ ∀ x ∈ xs.filter (· != K), x ≤ 20 :=
  ⟨Nat.lt_of_le_of_lt (List.length_filter_le _ _) hl, fun x hx => h x (List.mem_filter.mp hx).1⟩
theorem om_first2 {d : List Int} (hl : d.length < 50) (h : ∀ x ∈ d, x ≤ 20) (h2 : (d.any fun x => x == 2) = true) : OmSt d 3 (d.filter (· != 2)) := by
  refine ⟨?_, by decide, om_flt hl h⟩
  unfold omAll omFirst
  simp only [h2, if_true]
theorem om_first3 {d : List Int} (hl : d.length < 50) (h : ∀ x ∈ d, x ≤ 20) (h2 : (d.any fun x => x == 2) = false) (h3 : (d.any fun x => x == 3) = true) : OmSt d 4 (d.filter (· != 3)) := by
  refine ⟨?_, by decide, om_flt hl h⟩
  unfold omAll omFirst
  simp only [h2, h3, if_true, Bool.false_eq_true, if_false]
theorem om_first0 {d : List Int} (hl : d.length < 50) (h : ∀ x ∈ d, x ≤ 20) (h2 : (d.any fun x => x == 2) = false) (h3 : (d.any fun x => x == 3) = false) : OmSt d 2 d := by
  refine ⟨?_, by decide, hl, h⟩
  unfold omAll omFirst
  simp only [h2, h3, Bool.false_eq_true, if_false]
theorem om_le {xs : List Int} {p : Int} (h : ∀ x ∈ xs, x ≤ 20) (ha : (xs.any fun x => x == p + 1) = true) : p + 1 ≤ 20 := by
  obtain ⟨x, hx, e⟩ := List.any_eq_true.mp ha
  have e' : x = p + 1 := by simpa using e
  rw [← e']; exact h x hx
theorem om_step {d xs : List Int} {p : Int} (st : OmSt d p xs) (ha : (xs.any fun x => x == p + 1) = true) : OmSt d (p + 2) (xs.filter (· != p + 1)) ∧ (24 - (p + 2)).toNat < (24 - p).toNat := by
  obtain ⟨e, hp, hl, h⟩ := st
  have hle := om_le h ha
  have hf : omFuel p = omFuel (p + 2) + 1 := by unfold omFuel; omega
  refine ⟨⟨?_, by omega, om_flt hl h⟩, by omega⟩
  rw [e, hf]
  show (if (xs.any fun x => x == p + 1) = true then _ else _) = _
  rw [if_pos ha]
theorem om_stop {d xs : List Int} {p : Int} (st : OmSt d p xs) (ha : (xs.any fun x => x == p + 1) = false) : omAll d = (p, xs) := by
  obtain ⟨e, hp, hl, h⟩ := st
  have hf : omFuel p = (omFuel p - 1) + 1 := by unfold omFuel; omega
  rw [e, hf]
  show (if (xs.any fun x => x == p + 1) = true then _ else _) = _
  rw [if_neg (by simp [ha])]
noncomputable abbrev omLed (c : Addr) (news : List (Addr × Obj)) (x : OmS) : List (Addr × Obj) := (x.a, listOf x.us.toArray x.k) :: (c, x.o) :: news
noncomputable abbrev omPs (x : OmS) : List (Str × Value) := [(Str.ofString "left", .ref x.a)]
noncomputable def OmInv (d : List Int) (c : Addr) (x : OmS) : Prop := OmSt d x.p x.xs ∧ IntsAre x.us x.xs ∧ x.o.data = .cell (some (.int x.p x.tk)) ∧ @Ne Nat c x.a
noncomputable abbrev omMu (x : OmS) : Nat := (24 - x.p).toNat
theorem om_end {h₀ h' : Heap} {L c : Addr} {s : Shared} {m₀ m' : Str → Option Value} {x : OmS} {tk : Nat} {news news' : List (Addr × Obj)} {d : List Int} {a : Addr} {us : List Value} {k : Nat} {xs : List Int} {o : Obj} {p : Int} {tk' : Nat}
    (F : Fr h₀ L h' m') (N : News h₀ L h' news') (h1 : m' (Str.ofString "left") = some (.ref a)) (ho : o.data = .cell (some (.int p tk'))) (hi : IntsAre us xs) (m1 : (a, listOf us.toArray k) ∈ news') (m2 : (c, o) ∈ news') (hs : ∀ q ∈ news, q ∈ news') (ne : @Ne Nat c a)
    (hr : ∀ z, z ≠ Str.ofString "left" → m' z = m₀ z) (st : OmSt d p xs ∧ (24 - p).toNat < (24 - x.p).toNat) :
    KswEnd h₀ L s (omLed c news) omPs (fun _ => True) [] m₀ (OmInv d c) omMu x { s with heap := h', toks := tk } :=
  ksw_end ⟨a, us, k, xs, o, p, tk'⟩ F N (by
    intro q hq
    rcases List.mem_cons.mp hq with e | hq
    · rw [e]; exact m1
    · rcases List.mem_cons.mp hq with e | hq
      · rw [e]; exact m2
      · exact hs q hq) trivial (by
    intro q hq
    rw [List.mem_singleton.mp hq]; exact h1) (fun z hz _ => hr z (hz _ (.head _))) ⟨st.1, hi, ho, ne⟩ st.2
section
variable {prog : Program} {w : World} {A : Around} {E : Value → Shared → Prop} {Q : Flow → Shared → Prop} {s : Shared} {env : Env} {h₀ : Heap} {L : Addr}
theorem om_while {test : Expr} {body : List Stmt} {pos : Pos} {m₀ : Str → Option Value} {c : Addr} {news nw : List (Addr × Obj)} {d : List Int} {a : Addr} {us : List Value} {k : Nat} {xs : List Int} {o : Obj} {p : Int} {tk : Nat}
    (F : Fr h₀ L s.heap m₀) (N : News h₀ L s.heap nw) (h1 : m₀ (Str.ofString "left") = some (.ref a)) (ho : o.data = .cell (some (.int p tk))) (hi : IntsAre us xs) (m1 : (a, listOf us.toArray k) ∈ nw) (m2 : (c, o) ∈ nw) (hs : ∀ q ∈ news, q ∈ nw) (ne : @Ne Nat c a) (st : OmSt d p xs)
    (turn : ∀ (x : OmS) h tk, OmInv d c x → Fr h₀ L h (fun z => if z = Str.ofString "left" then some (.ref x.a) else m₀ z) → News h₀ L h ((x.a, listOf x.us.toArray x.k) :: (c, x.o) :: news) →
      wpAny (model prog w) A (isTrue test env (eval test env)) (fun b s₂ =>
        if b = true then wpAny (model prog w) A (execs body env) (KswPost h₀ L s (omLed c news) omPs (fun _ => True) [] m₀ (OmInv d c) omMu Q x) E s₂ else Q .next s₂) E { s with heap := h, toks := tk })
    (hE : PassesOwn (model prog w) A env E := by passes_own) :
    wpAny (model prog w) A (exec (.While test body [] pos) env) Q E s :=
  ksw_while (σ := OmS) (omLed c news) omPs (fun _ => True) [] (OmInv d c) omMu ⟨a, us, k, xs, o, p, tk⟩ F (fun q hq => N q (by
    rcases List.mem_cons.mp hq with e | hq
    · rw [e]; exact m1
    · rcases List.mem_cons.mp hq with e | hq
      · rw [e]; exact m2
      · exact hs q hq)) trivial (by
    intro q hq
    rw [List.mem_singleton.mp hq]; exact h1) ⟨st, hi, ho, ne⟩ (fun x u h tk _ hp F' N' => by
      refine turn x h tk hp ?_ N'
      have e : kstB (fun z => if ([] : List Str).contains z then u z else m₀ z) (omPs x) = (fun z => if z = Str.ofString "left" then some (.ref x.a) else m₀ z) := by
        funext z
        simp [kstB, omPs]
      rw [← e]; exact F') hE
end
/-- behind the choice: the place in its cell, the list that is left -/
noncomputable def OmMid (h₀ : Heap) (L c : Addr) (m : Str → Option Value) (d : List Int) (news : List (Addr × Obj)) (s : Shared) (f : Flow) (s' : Shared) : Prop :=
  f = .next ∧ ∃ (a : Addr) (us : List Value) (k : Nat) (xs : List Int) (o : Obj) (p : Int) (tkp : Tok) (h' : Heap) (tk : Nat), s' = { s with heap := h', toks := tk } ∧
    Fr h₀ L h' (fun y => if y = Str.ofString "left" then some (.ref a) else m y) ∧ News h₀ L h' ((a, listOf us.toArray k) :: (c, o) :: news) ∧ o.data = .cell (some (.int p tkp)) ∧ IntsAre us xs ∧ @Ne Nat c a ∧ OmSt d p xs
theorem om_cut {M : Model} {A : Around} {t : Sem Flow} {h₀ : Heap} {L c : Addr} {m : Str → Option Value} {d : List Int} {news nw : List (Addr × Obj)} {Q : Flow → Shared → Prop} {E : Value → Shared → Prop} {s : Shared} (hF : Fr h₀ L s.heap m) (hN : News h₀ L s.heap nw)
    (walk : Fr h₀ L s.heap m → News h₀ L s.heap nw → wpAny M A t (OmMid h₀ L c m d news s) E s)
    (cont : ∀ a us k xs o p tkp h' tk, Fr h₀ L h' (fun y => if y = Str.ofString "left" then some (.ref a) else m y) → News h₀ L h' ((a, listOf us.toArray k) :: (c, o) :: news) → o.data = .cell (some (.int p tkp)) → IntsAre us xs → @Ne Nat c a → OmSt d p xs → Q .next { s with heap := h', toks := tk }) : wpAny M A t Q E s :=
  wpAny_mono (walk hF hN) (by
    rintro f s' ⟨e0, a, us, k, xs, o, p, tkp, h', tk, e1, h1, h2, h3, h4, h5, h6⟩
    rw [e0, e1]
    exact cont a us k xs o p tkp h' tk h1 h2 h3 h4 h5 h6) fun _ _ e => e
theorem om_mid {h₀ h' : Heap} {L c : Addr} {m m' : Str → Option Value} {d : List Int} {news nw : List (Addr × Obj)} {s : Shared} {a : Addr} {us : List Value} {k : Nat} {xs : List Int} {o : Obj} {p : Int} {tkp : Tok} {tk : Nat}
    (F : Fr h₀ L h' m') (N : News h₀ L h' nw) (e : ∀ y, m' y = if y = Str.ofString "left" then some (.ref a) else m y) (ho : o.data = .cell (some (.int p tkp))) (hi : IntsAre us xs) (m1 : (a, listOf us.toArray k) ∈ nw) (m2 : (c, o) ∈ nw) (hs : ∀ q ∈ news, q ∈ nw) (ne : @Ne Nat c a) (st : OmSt d p xs) :
    OmMid h₀ L c m d news s .next { s with heap := h', toks := tk } :=
  ⟨rfl, a, us, k, xs, o, p, tkp, h', tk, rfl, funext e ▸ F, (fun q hq => N q ((List.mem_cons.mp hq).elim (fun e => e ▸ m1) fun hq => (List.mem_cons.mp hq).elim (fun e => e ▸ m2) (hs q))), ho, hi, ne, st⟩
local macro_rules | `(tactic| walk_at "KswEnd") => `(tactic| (rename News _ _ _ _ => nE'; exact om_end (by assumption) nE' (by with_unfolding_all rfl) (by assumption) (by assumption) (by k_memK) (by k_memK) (by intro p9 h9; kst_mem) (by first | assumption | exact And.left (And.right (by assumption))) (by intro z h1; simp [h1]) (om_step (by assumption) (by assumption))))
theorem more_ok : Keeps 142 moreC := by
  w_top off
  unfold Keeps
  k_fill
  intro w mean mg mb d dp un gd cn cs a ccd cl outer A₀ base h₀ L m news s vs Q E B F X N T hk hR hok hd hu hret
  obtain ⟨_, rfl, a1, us1, n1, rfl, hm1, hi1⟩ := hR
  dsimp only [moreC] at hok hd hu hret hi1 ⊢
  obtain ⟨hx1, hx2⟩ := hok
  refine wpAny_call ?_
  k_dflt ((refine' code_defC ?k1 ?k2 ?k3 ?k4 ?k5 ?kA ?kF ?kK ?k6 ?k7 ?k8 ?k9 ?kB ?kD ?_ ?c2 ?c3 ?c4; (case kA => exact rfl); (case kF => exact rfl); (case kK => assumption); (case k1 => k_asm); (case k2 => k_asm); (case k3 => k_asm); (case k4 => k_asm); (case k5 => k_asm); (case k6 => k_is); (case k7 => k_is); (case k8 => ktr_room); (case k9 => exact BindsTo.of_eq rfl); (case kB => exact rfl); (case kD => decide +kernel); (case c2 => exact rfl); (case c3 => exact rfl); (case c4 => exact rfl); k_whole; intro g' L' h1' tk1' cells' FG' F' N' Y' B' X' T' l1; (try k_lt l1); k_cells Y'; (try simp only [List.cons_append, List.nil_append] at N'); (try dsimp only); (try k_fold)))
  have kMark := kstMark
  have N2 := news_at N' (List.mem_cons_of_mem _ hm1)
  clear N'
  have hlc : AllLt (L' + 1) news := allLt_of fun p hp => Nat.lt_succ_of_lt (l1 p hp)
  have ha1 : @LT.lt Nat _ a1 L' := l1 _ hm1
  have hlen : us1.toArray.size ≤ sizeLine := by
    rw [List.size_toArray, hi1.length, PySem.sizeLine_eq]; omega
  k_with_none
  (repeat' (first | (k_unfold; (try dsimp only)) | (k_end; wrow_close) | ((fail_if_success (with_reducible show wpAny _ _ (PySem.exec (Stmt.If _ _ _ _) _) _ _ _)); (((fail_if_success (with_reducible show wpAny _ _ (PySem.exec (Stmt.While _ _ _ _) _) _ _ _)); (fail_if_success (with_reducible show wpAny _ _ (PySem.exec (Stmt.For _ _ _ _ _) _) _ _ _)); (fail_if_success (with_reducible show wpAny _ _ (pyIter (Value.ref _)) (fun it s₂ => LoopAtV _ _ _ _ _ _ _ _ _ it s₂) _ _)); (fail_if_success (with_reducible show wpAny _ _ (pyIter (Value.ref _)) (fun it s₂ => PairAt3 _ _ _ _ _ _ _ _ _ _ it s₂) _ _)))); first | walk1 | (dsimp only; walk1)) | fail "no step"))
  (rename Fr _ _ _ _ => F9)
  (rename News _ _ _ _ => N9)
  refine om_cut (c := L' + 1) (d := d) (news := news) F9 N9 ?walk ?cont
  case walk =>
    clear F9 N9
    intro F9 N9
    (repeat' (first | (k_unfold; (try dsimp only)) | (k_end; wrow_close) | ((fail_if_success (with_reducible show wpAny _ _ (PySem.eval (Expr.ListComp _ _ _ _) _) _ _ _)); (fail_if_success (with_reducible show wpAny _ _ (PySem.exec (Stmt.Assign _ (Expr.ListComp _ _ _ _) _) _) _ _ _)); (fail_if_success (with_reducible show wpAny _ _ (PySem.call (Value.ref 116) _) _ _ _)); (fail_if_success (with_reducible show LCg.CompSrc _ _ _ _ _ _ _ _ _ _ _ _ _ _)); (fail_if_success (with_reducible show LCt.CompSrcT _ _ _ _ _ _ _ _ _ _ _ _ _ _ _)); (((fail_if_success (with_reducible show wpAny _ _ (PySem.exec (Stmt.While _ _ _ _) _) _ _ _)); (fail_if_success (with_reducible show wpAny _ _ (PySem.exec (Stmt.For _ _ _ _ _) _) _ _ _)); (fail_if_success (with_reducible show wpAny _ _ (pyIter (Value.ref _)) (fun it s₂ => LoopAtV _ _ _ _ _ _ _ _ _ it s₂) _ _)); (fail_if_success (with_reducible show wpAny _ _ (pyIter (Value.ref _)) (fun it s₂ => PairAt3 _ _ _ _ _ _ _ _ _ _ it s₂) _ _)))); first | walk1 | (dsimp only; walk1)) | (leave1; walk_say "STEP leave1"; try dsimp only) | fail "no step"))
    · ((k_dflt (refine LCt.ListComp_T (F₀ := by k_asm) (by with_unfolding_all rfl) (by decide) (by rfl) (by decide) (by rfl) ?_); (first | walk1 | (dsimp only; walk1)); (k_dflt (refine LCt.CompSrcT.ledger (by rfl) (by k_asm) (by k_asm) (by k_memK) (by assumption) ?_)); intro g'))
      refine' kci_list (fltG 2) (by assumption) (fun k' t' I' oI' C' oC' D' m' ys' l' h' tk' E' hk' hI' hC' hx' F' N' off' ne' mk' => ?_) ?_ (fltG_grows _)
      · (repeat' (first | (k_unfold; (try dsimp only)) | (k_end; wrow_close) | ((fail_if_success (with_reducible show wpAny _ _ (PySem.eval (Expr.ListComp _ _ _ _) _) _ _ _)); (fail_if_success (with_reducible show wpAny _ _ (PySem.exec (Stmt.Assign _ (Expr.ListComp _ _ _ _) _) _) _ _ _)); (fail_if_success (with_reducible show wpAny _ _ (PySem.call (Value.ref 116) _) _ _ _)); (fail_if_success (with_reducible show LCg.CompSrc _ _ _ _ _ _ _ _ _ _ _ _ _ _)); (fail_if_success (with_reducible show LCt.CompSrcT _ _ _ _ _ _ _ _ _ _ _ _ _ _ _)); (((fail_if_success (with_reducible show wpAny _ _ (PySem.exec (Stmt.While _ _ _ _) _) _ _ _)); (fail_if_success (with_reducible show wpAny _ _ (PySem.exec (Stmt.For _ _ _ _ _) _) _ _ _)); (fail_if_success (with_reducible show wpAny _ _ (pyIter (Value.ref _)) (fun it s₂ => LoopAtV _ _ _ _ _ _ _ _ _ it s₂) _ _)); (fail_if_success (with_reducible show wpAny _ _ (pyIter (Value.ref _)) (fun it s₂ => PairAt3 _ _ _ _ _ _ _ _ _ _ it s₂) _ _)))); first | walk1 | (dsimp only; walk1)) | (leave1; walk_say "STEP leave1"; try dsimp only) | fail "no step"))
      unfold KPfDone
      intro ys1 hy1 hl1
      rw [fltG_eq] at hy1
      intro D1 h1 tk1 F1 N1 o1
      (try simp only [LCg.Off1] at o1)
      (repeat' (first | (k_unfold; (try dsimp only)) | (k_end; wrow_close) | ((fail_if_success (with_reducible show wpAny _ _ (PySem.eval (Expr.ListComp _ _ _ _) _) _ _ _)); (fail_if_success (with_reducible show wpAny _ _ (PySem.exec (Stmt.Assign _ (Expr.ListComp _ _ _ _) _) _) _ _ _)); (fail_if_success (with_reducible show wpAny _ _ (PySem.call (Value.ref 116) _) _ _ _)); (fail_if_success (with_reducible show LCg.CompSrc _ _ _ _ _ _ _ _ _ _ _ _ _ _)); (fail_if_success (with_reducible show LCt.CompSrcT _ _ _ _ _ _ _ _ _ _ _ _ _ _ _)); (((fail_if_success (with_reducible show wpAny _ _ (PySem.exec (Stmt.While _ _ _ _) _) _ _ _)); (fail_if_success (with_reducible show wpAny _ _ (PySem.exec (Stmt.For _ _ _ _ _) _) _ _ _)); (fail_if_success (with_reducible show wpAny _ _ (pyIter (Value.ref _)) (fun it s₂ => LoopAtV _ _ _ _ _ _ _ _ _ it s₂) _ _)); (fail_if_success (with_reducible show wpAny _ _ (pyIter (Value.ref _)) (fun it s₂ => PairAt3 _ _ _ _ _ _ _ _ _ _ it s₂) _ _)))); first | walk1 | (dsimp only; walk1)) | (leave1; walk_say "STEP leave1"; try dsimp only) | fail "no step"))
      exact om_mid (us := ys1) (k := ys1.length) (by assumption) (by assumption) (fun y => by
        by_cases h1 : y = Str.ofString "left"
        · subst h1; with_unfolding_all rfl
        · simp only [if_neg h1]) (by assumption) hy1 (by k_memK) (by k_memK) (by intro p9 h9; kst_mem) (by first | assumption | exact o1.2.2.1) (om_first2 hx1 hx2 (by assumption))
    · ((k_dflt (refine LCt.ListComp_T (F₀ := by k_asm) (by with_unfolding_all rfl) (by decide) (by rfl) (by decide) (by rfl) ?_); (first | walk1 | (dsimp only; walk1)); (k_dflt (refine LCt.CompSrcT.ledger (by rfl) (by k_asm) (by k_asm) (by k_memK) (by assumption) ?_)); intro g'))
      refine' kci_list (fltG 3) (by assumption) (fun k' t' I' oI' C' oC' D' m' ys' l' h' tk' E' hk' hI' hC' hx' F' N' off' ne' mk' => ?_) ?_ (fltG_grows _)
      · (repeat' (first | (k_unfold; (try dsimp only)) | (k_end; wrow_close) | ((fail_if_success (with_reducible show wpAny _ _ (PySem.eval (Expr.ListComp _ _ _ _) _) _ _ _)); (fail_if_success (with_reducible show wpAny _ _ (PySem.exec (Stmt.Assign _ (Expr.ListComp _ _ _ _) _) _) _ _ _)); (fail_if_success (with_reducible show wpAny _ _ (PySem.call (Value.ref 116) _) _ _ _)); (fail_if_success (with_reducible show LCg.CompSrc _ _ _ _ _ _ _ _ _ _ _ _ _ _)); (fail_if_success (with_reducible show LCt.CompSrcT _ _ _ _ _ _ _ _ _ _ _ _ _ _ _)); (((fail_if_success (with_reducible show wpAny _ _ (PySem.exec (Stmt.While _ _ _ _) _) _ _ _)); (fail_if_success (with_reducible show wpAny _ _ (PySem.exec (Stmt.For _ _ _ _ _) _) _ _ _)); (fail_if_success (with_reducible show wpAny _ _ (pyIter (Value.ref _)) (fun it s₂ => LoopAtV _ _ _ _ _ _ _ _ _ it s₂) _ _)); (fail_if_success (with_reducible show wpAny _ _ (pyIter (Value.ref _)) (fun it s₂ => PairAt3 _ _ _ _ _ _ _ _ _ _ it s₂) _ _)))); first | walk1 | (dsimp only; walk1)) | (leave1; walk_say "STEP leave1"; try dsimp only) | fail "no step"))
      unfold KPfDone
      intro ys1 hy1 hl1
      rw [fltG_eq] at hy1
      intro D1 h1 tk1 F1 N1 o1
      (try simp only [LCg.Off1] at o1)
      (repeat' (first | (k_unfold; (try dsimp only)) | (k_end; wrow_close) | ((fail_if_success (with_reducible show wpAny _ _ (PySem.eval (Expr.ListComp _ _ _ _) _) _ _ _)); (fail_if_success (with_reducible show wpAny _ _ (PySem.exec (Stmt.Assign _ (Expr.ListComp _ _ _ _) _) _) _ _ _)); (fail_if_success (with_reducible show wpAny _ _ (PySem.call (Value.ref 116) _) _ _ _)); (fail_if_success (with_reducible show LCg.CompSrc _ _ _ _ _ _ _ _ _ _ _ _ _ _)); (fail_if_success (with_reducible show LCt.CompSrcT _ _ _ _ _ _ _ _ _ _ _ _ _ _ _)); (((fail_if_success (with_reducible show wpAny _ _ (PySem.exec (Stmt.While _ _ _ _) _) _ _ _)); (fail_if_success (with_reducible show wpAny _ _ (PySem.exec (Stmt.For _ _ _ _ _) _) _ _ _)); (fail_if_success (with_reducible show wpAny _ _ (pyIter (Value.ref _)) (fun it s₂ => LoopAtV _ _ _ _ _ _ _ _ _ it s₂) _ _)); (fail_if_success (with_reducible show wpAny _ _ (pyIter (Value.ref _)) (fun it s₂ => PairAt3 _ _ _ _ _ _ _ _ _ _ it s₂) _ _)))); first | walk1 | (dsimp only; walk1)) | (leave1; walk_say "STEP leave1"; try dsimp only) | fail "no step"))
      exact om_mid (us := ys1) (k := ys1.length) (by assumption) (by assumption) (fun y => by
        by_cases h1 : y = Str.ofString "left"
        · subst h1; with_unfolding_all rfl
        · simp only [if_neg h1]) (by assumption) hy1 (by k_memK) (by k_memK) (by intro p9 h9; kst_mem) (by first | assumption | exact o1.2.2.1) (om_first3 hx1 hx2 (by assumption) (by assumption))
    · exact om_mid (a := a1) (k := n1) (by assumption) (by assumption) (fun y => by
        by_cases h1 : y = Str.ofString "left"
        · subst h1; with_unfolding_all rfl
        · simp only [if_neg h1]) (by assumption) hi1 (by k_memK) (by k_memK) (by intro p9 h9; kst_mem) (by intro e9; omega) (om_first0 hx1 hx2 (by assumption) (by assumption))
  case cont =>
    clear F9 N9
    intro aw usw kw xsw ow pw tkw hh9 tk9 F9 N9 how hiw new stw
    (try dsimp only)
    (repeat' (first | (k_unfold; (try dsimp only)) | (k_end; wrow_close) | ((fail_if_success (with_reducible show wpAny _ _ (PySem.eval (Expr.ListComp _ _ _ _) _) _ _ _)); (fail_if_success (with_reducible show wpAny _ _ (PySem.exec (Stmt.Assign _ (Expr.ListComp _ _ _ _) _) _) _ _ _)); (fail_if_success (with_reducible show wpAny _ _ (PySem.call (Value.ref 116) _) _ _ _)); (fail_if_success (with_reducible show LCg.CompSrc _ _ _ _ _ _ _ _ _ _ _ _ _ _)); (fail_if_success (with_reducible show LCt.CompSrcT _ _ _ _ _ _ _ _ _ _ _ _ _ _ _)); (((fail_if_success (with_reducible show wpAny _ _ (PySem.exec (Stmt.While _ _ _ _) _) _ _ _)); (fail_if_success (with_reducible show wpAny _ _ (PySem.exec (Stmt.For _ _ _ _ _) _) _ _ _)); (fail_if_success (with_reducible show wpAny _ _ (pyIter (Value.ref _)) (fun it s₂ => LoopAtV _ _ _ _ _ _ _ _ _ it s₂) _ _)); (fail_if_success (with_reducible show wpAny _ _ (pyIter (Value.ref _)) (fun it s₂ => PairAt3 _ _ _ _ _ _ _ _ _ _ it s₂) _ _)))); first | walk1 | (dsimp only; walk1)) | (leave1; walk_say "STEP leave1"; try dsimp only) | fail "no step"))
    (refine om_while (news := news) (c := L' + 1) (d := d) (us := usw) (k := kw) F9 N9 (by with_unfolding_all rfl) how hiw (.head _) (.tail _ (.head _)) (fun p9 h9 => .tail _ (.tail _ h9)) new stw ?_)
    ((
    (rintro ⟨a, us, k, xs, o, p, tk⟩ h tk' ⟨st, hi, ho, ne⟩ F' N');
    (dsimp only at st hi ho ne F' N');
    (with_reducible show wpAny _ _ _ _ _ _);
    k_fold;
    (have hle := st.2.2.1);
    (have hsz : us.toArray.size ≤ sizeLine := by
      rw [List.size_toArray, hi.length, PySem.sizeLine_eq]; omega);
    ((repeat' (first | (k_unfold; (try dsimp only)) | (k_end; wrow_close) | ((fail_if_success (with_reducible show wpAny _ _ (PySem.eval (Expr.ListComp _ _ _ _) _) _ _ _)); (fail_if_success (with_reducible show wpAny _ _ (PySem.exec (Stmt.Assign _ (Expr.ListComp _ _ _ _) _) _) _ _ _)); (fail_if_success (with_reducible show wpAny _ _ (PySem.call (Value.ref 116) _) _ _ _)); (fail_if_success (with_reducible show LCg.CompSrc _ _ _ _ _ _ _ _ _ _ _ _ _ _)); (fail_if_success (with_reducible show LCt.CompSrcT _ _ _ _ _ _ _ _ _ _ _ _ _ _ _)); (((fail_if_success (with_reducible show wpAny _ _ (PySem.exec (Stmt.While _ _ _ _) _) _ _ _)); (fail_if_success (with_reducible show wpAny _ _ (PySem.exec (Stmt.For _ _ _ _ _) _) _ _ _)); (fail_if_success (with_reducible show wpAny _ _ (pyIter (Value.ref _)) (fun it s₂ => LoopAtV _ _ _ _ _ _ _ _ _ it s₂) _ _)); (fail_if_success (with_reducible show wpAny _ _ (pyIter (Value.ref _)) (fun it s₂ => PairAt3 _ _ _ _ _ _ _ _ _ _ it s₂) _ _)))); first | walk1 | (dsimp only; walk1)) | (leave1; walk_say "STEP leave1"; try dsimp only) | fail "no step")));
    focus (
      (((k_dflt (refine LCt.ListComp_T (F₀ := by k_asm) (by with_unfolding_all rfl) (by decide) (by rfl) (by decide) (by rfl) ?_); (first | walk1 | (dsimp only; walk1)); (k_dflt (refine LCt.CompSrcT.ledger (by rfl) (by k_asm) (by k_asm) (by k_memK) (by assumption) ?_)); intro g')));
      (refine' kci_list (fltG (p + 1)) (by assumption) (fun k' t' I' oI' C' oC' D' m' ys' l' h' tk' E' hk' hI' hC' hx' F' N' off' ne' mk' => ?_) ?_ (fltG_grows _));
      focus ((repeat' (first | (k_unfold; (try dsimp only)) | (k_end; wrow_close) | ((fail_if_success (with_reducible show wpAny _ _ (PySem.eval (Expr.ListComp _ _ _ _) _) _ _ _)); (fail_if_success (with_reducible show wpAny _ _ (PySem.exec (Stmt.Assign _ (Expr.ListComp _ _ _ _) _) _) _ _ _)); (fail_if_success (with_reducible show wpAny _ _ (PySem.call (Value.ref 116) _) _ _ _)); (fail_if_success (with_reducible show LCg.CompSrc _ _ _ _ _ _ _ _ _ _ _ _ _ _)); (fail_if_success (with_reducible show LCt.CompSrcT _ _ _ _ _ _ _ _ _ _ _ _ _ _ _)); (((fail_if_success (with_reducible show wpAny _ _ (PySem.exec (Stmt.While _ _ _ _) _) _ _ _)); (fail_if_success (with_reducible show wpAny _ _ (PySem.exec (Stmt.For _ _ _ _ _) _) _ _ _)); (fail_if_success (with_reducible show wpAny _ _ (pyIter (Value.ref _)) (fun it s₂ => LoopAtV _ _ _ _ _ _ _ _ _ it s₂) _ _)); (fail_if_success (with_reducible show wpAny _ _ (pyIter (Value.ref _)) (fun it s₂ => PairAt3 _ _ _ _ _ _ _ _ _ _ it s₂) _ _)))); first | walk1 | (dsimp only; walk1)) | (leave1; walk_say "STEP leave1"; try dsimp only) | fail "no step")));
      focus (((unfold KPfDone; intro ys1 hy1 hl1; rw [fltG_eq] at hy1; intro D1 h1 tk1 F1 N1 o1; (try simp only [LCg.Off1] at o1))); (repeat' (first | (k_unfold; (try dsimp only)) | (k_end; wrow_close) | ((fail_if_success (with_reducible show wpAny _ _ (PySem.eval (Expr.ListComp _ _ _ _) _) _ _ _)); (fail_if_success (with_reducible show wpAny _ _ (PySem.exec (Stmt.Assign _ (Expr.ListComp _ _ _ _) _) _) _ _ _)); (fail_if_success (with_reducible show wpAny _ _ (PySem.call (Value.ref 116) _) _ _ _)); (fail_if_success (with_reducible show LCg.CompSrc _ _ _ _ _ _ _ _ _ _ _ _ _ _)); (fail_if_success (with_reducible show LCt.CompSrcT _ _ _ _ _ _ _ _ _ _ _ _ _ _ _)); (((fail_if_success (with_reducible show wpAny _ _ (PySem.exec (Stmt.While _ _ _ _) _) _ _ _)); (fail_if_success (with_reducible show wpAny _ _ (PySem.exec (Stmt.For _ _ _ _ _) _) _ _ _)); (fail_if_success (with_reducible show wpAny _ _ (pyIter (Value.ref _)) (fun it s₂ => LoopAtV _ _ _ _ _ _ _ _ _ it s₂) _ _)); (fail_if_success (with_reducible show wpAny _ _ (pyIter (Value.ref _)) (fun it s₂ => PairAt3 _ _ _ _ _ _ _ _ _ _ it s₂) _ _)))); first | walk1 | (dsimp only; walk1)) | (leave1; walk_say "STEP leave1"; try dsimp only) | fail "no step"))))))
    (rename News _ _ _ _ => kN9)
    (have eS := om_stop (by assumption) (by assumption))
    (refine' hret _ [(_, listOf (List.toArray _) _)] _ _ (by assumption) (made_one kN9 ?hin ?hsub) (ord_one ?hlt) ⟨_, _, _, rfl, rfl, _, ?hi, ?hp, ?hw⟩)
    case hin => k_memK
    case hsub => (intro p9 h9; kst_mem)
    case hlt => (first | assumption | exact allLt_of (by assumption) | exact lt_app (by assumption) | exact And.right (by assumption) | exact lt_app (And.right (by assumption)) | exact And.right (And.right (by assumption)) | exact lt_app (And.right (And.right (by assumption))) | exact And.right (And.right (And.right (by assumption))) | exact lt_app (And.right (And.right (And.right (by assumption)))) | exact And.right (And.right (And.right (And.right (by assumption)))) | exact lt_app (And.right (And.right (And.right (And.right (by assumption))))) | exact And.right (And.right (And.right (And.right (And.right (by assumption))))) | exact lt_app (And.right (And.right (And.right (And.right (And.right (by assumption)))))) | exact And.right (And.right (And.right (And.right (And.right (And.right (by assumption)))))) | exact lt_app (And.right (And.right (And.right (And.right (And.right (And.right (by assumption))))))) | exact And.right (And.right (And.right (And.right (And.right (And.right (And.right (by assumption))))))) | exact lt_app (And.right (And.right (And.right (And.right (And.right (And.right (And.right (by assumption)))))))) | exact And.right (And.right (And.right (And.right (And.right (And.right (And.right (And.right (by assumption)))))))) | exact lt_app (And.right (And.right (And.right (And.right (And.right (And.right (And.right (And.right (by assumption))))))))) | exact And.right (And.right (And.right (And.right (And.right (And.right (And.right (And.right (And.right (by assumption))))))))) | exact lt_app (And.right (And.right (And.right (And.right (And.right (And.right (And.right (And.right (And.right (by assumption)))))))))) | exact And.right (And.right (And.right (And.right (And.right (And.right (And.right (And.right (And.right (And.right (by assumption)))))))))) | exact lt_app (And.right (And.right (And.right (And.right (And.right (And.right (And.right (And.right (And.right (And.right (by assumption))))))))))) | exact And.right (And.right (And.right (And.right (And.right (And.right (And.right (And.right (And.right (And.right (And.right (by assumption))))))))))) | exact lt_app (And.right (And.right (And.right (And.right (And.right (And.right (And.right (And.right (And.right (And.right (And.right (by assumption)))))))))))) | exact And.right (And.right (And.right (And.right (And.right (And.right (And.right (And.right (And.right (And.right (And.right (And.right (by assumption)))))))))))) | exact lt_app (And.right (And.right (And.right (And.right (And.right (And.right (And.right (And.right (And.right (And.right (And.right (And.right (by assumption))))))))))))) | exact And.right (And.right (And.right (And.right (And.right (And.right (And.right (And.right (And.right (And.right (And.right (And.right (And.right (by assumption))))))))))))) | exact lt_app (And.right (And.right (And.right (And.right (And.right (And.right (And.right (And.right (And.right (And.right (And.right (And.right (And.right (by assumption)))))))))))))) | exact And.right (And.right (And.right (And.right (And.right (And.right (And.right (And.right (And.right (And.right (And.right (And.right (And.right (And.right (by assumption)))))))))))))) | exact lt_app (And.right (And.right (And.right (And.right (And.right (And.right (And.right (And.right (And.right (And.right (And.right (And.right (And.right (And.right (by assumption))))))))))))))) | exact And.right (And.right (And.right (And.right (And.right (And.right (And.right (And.right (And.right (And.right (And.right (And.right (And.right (And.right (And.right (by assumption))))))))))))))) | exact lt_app (And.right (And.right (And.right (And.right (And.right (And.right (And.right (And.right (And.right (And.right (And.right (And.right (And.right (And.right (And.right (by assumption)))))))))))))))) | exact And.right (And.right (And.right (And.right (And.right (And.right (And.right (And.right (And.right (And.right (And.right (And.right (And.right (And.right (And.right (And.right (by assumption)))))))))))))))) | exact lt_app (And.right (And.right (And.right (And.right (And.right (And.right (And.right (And.right (And.right (And.right (And.right (And.right (And.right (And.right (And.right (And.right (by assumption))))))))))))))))))
    case hi => assumption
    case hp => (rw [eS]; assumption)
    case hw => assumption
end
/- part lotsp -/
section
section
variable {prog : Program} {w : World} {A : Around} {E : Value → Shared → Prop} {s : Shared} {env : Env} {h₀ : Heap} {x : Str} {body : List Stmt} {Q : Flow → Shared → Prop}
/-- the end of a turn of a loop whose name is a cell -/
noncomputable def CellEnd {σ : Type} (h₀ : Heap) (L cc : Addr) (Led : σ → List (Addr × Obj)) (ps : σ → List (Str × Value)) (m₀ : Str → Option Value) (P : σ → Prop) (own : List (Addr × Obj)) (s₁ : Shared) (s₂ : Shared) : Prop :=
  ∃ (c' : σ) (o' : Obj) (v' : Option Value) (h' : Heap) (tk : Nat) (m' : Str → Option Value) (news' : List (Addr × Obj)), s₂ = { s₁ with heap := h', toks := tk } ∧ Fr h₀ L h' m' ∧ News h₀ L h' news' ∧ (cc, o') ∈ news' ∧ o'.data = .cell v' ∧ (∀ p ∈ Led c', p ∈ news') ∧ (∀ p ∈ own, p ∈ news') ∧ (∀ p ∈ ps c', m' p.1 = some p.2) ∧
    (∀ z, (∀ p ∈ ps c', z ≠ p.1) → m' z = m₀ z) ∧ P c'
noncomputable def TurnC {σ : Type} (h₀ : Heap) (L cc : Addr) (Led : σ → List (Addr × Obj)) (ps : σ → List (Str × Value)) (m₀ : Str → Option Value) (P : σ → Prop) (own : List (Addr × Obj)) (s₁ : Shared) (f : Flow) (s₂ : Shared) : Prop :=
  match f with
  | .next => CellEnd h₀ L cc Led ps m₀ P own s₁ s₂
  | _ => False
theorem cell_fr {h : Heap} {L : Addr} {ps : List (Str × Value)} {m₀ m₁ : Str → Option Value} (h1 : ∀ p ∈ ps, m₁ p.1 = some p.2) (h2 : ∀ z, (∀ p ∈ ps, z ≠ p.1) → m₁ z = m₀ z) (F : Fr h₀ L h m₁) : Fr h₀ L h (kstB m₀ ps) := by
  have em : kstB m₀ ps = m₁ := by
    funext y
    exact kstB_eq h1 fun hn => (h2 y hn).symm
  rw [em]; exact F
theorem for_range_cell {σ : Type} {r : Addr} {a₀ b₀ st : Int} {t₀ u₀ v₀ : Tok} {n : Nat} {m₀ : Str → Option Value} {px : Pos} {cc : Addr} {o₀ : Obj} {w₀ : Option Value} (dyn : σ → List (Addr × Obj)) (base : List (Addr × Obj)) (ps : σ → List (Str × Value)) (kf : Nat → Int) (P : Nat → σ → Prop) (c₀ : σ)
    (hkf : ∀ i, i < n → a₀ + (i : Int) * st = kf i) (hh : A.handled = none) (hkind : env.scope.kind = .function) (hx : env.kindOf x = some .cell) (hcl : env.cells.lookup x = some cc)
    (hr : IsRange s.heap r a₀ b₀ st t₀ u₀ v₀) (hsmall : Builtin.Range.small a₀ b₀ st = true) (hn : Builtin.Range.rangeSize a₀ b₀ st = (n : Int)) (F : Fr h₀ env.locals s.heap m₀) (N : News h₀ env.locals s.heap ((cc, o₀) :: (dyn c₀ ++ base))) (hd : o₀.data = .cell w₀) (hk : ∀ p ∈ ps c₀, m₀ p.1 = some p.2) (hp : P 0 c₀)
    (hdyn : ∀ i c, P i c → ∀ p ∈ dyn c, p.2.cls ≠ .type "range_iterator" ∧ ∀ v, p.2.data ≠ .cell v) (hbase : ∀ p ∈ base, @Ne Nat p.1 cc)
    (turn : ∀ (c : σ) (i : Nat) t o (s : Shared) h tk own, i < n → P i c → o.data = .cell (some (.int (kf i) t)) →
      Fr h₀ env.locals h (kstB m₀ (ps c)) → News h₀ env.locals h ((cc, o) :: ((dyn c ++ base) ++ own)) →
      wpAny (model prog w) A (execs body env) (TurnC h₀ env.locals cc (fun c => dyn c ++ base) ps m₀ (P (i + 1)) own { s with heap := h, toks := tk }) E { s with heap := h, toks := tk })
    (done : ∀ (c : σ) o v h tk, P n c → o.data = .cell v → Fr h₀ env.locals h (kstB m₀ (ps c)) → News h₀ env.locals h ((cc, o) :: (dyn c ++ base)) → Q .next { s with heap := h, toks := tk }) :
    wpAny (model prog w) A (pyIter (.ref r)) (fun it s₂ => LoopAtT prog w A h₀ env (.Name x px) body Q E it s₂) E s := by
  refine wpAny_pyIter_range hr hsmall ?_
  have W : Walks prog w A s.heap.objs.size [s.heap.objs.size] [s.heap.objs.size] n (fun i v => i < n ∧ ∃ t, v = .int (a₀ + i * st) t)
      (fun i h => IsRangeIter h s.heap.objs.size (a₀ + (i : Nat) * st) ((n : Int) - (i : Nat)) st) := (Walks.range hh _ a₀ st n).bound
  let J : Nat → (Str → Option Value) → List (Addr × Obj) → Prop := fun i m nx => ∃ c o v, nx = (cc, o) :: (dyn c ++ base) ∧ o.data = .cell v ∧ (∀ p ∈ ps c, m p.1 = some p.2) ∧ (∀ z, (∀ p ∈ ps c, z ≠ p.1) → m z = m₀ z) ∧ P i c
  have off : ∀ {h' : Heap} {c : σ} {o : Obj} {v : Option Value} {i : Nat} {l r : Int} , P i c → o.data = .cell v → News h₀ env.locals h' ((cc, o) :: (dyn c ++ base)) → IsRangeIter h' s.heap.objs.size l r st → ∀ p ∈ (cc, o) :: (dyn c ++ base), p.1 ∉ [s.heap.objs.size] := by
    intro h' c o v i l r hP ho N' hit p hp hI
    have e : p.1 = s.heap.objs.size := List.mem_singleton.mp hI
    rcases List.mem_cons.mp hp with h1 | hp
    · have g := (N' _ (.head _)).1
      rw [h1] at e
      have e' : cc = s.heap.objs.size := e
      simp only [e'] at g
      rw [hit] at g
      have e2 : _ = o := Option.some.inj g
      rw [← e2] at ho
      cases ho
    rcases List.mem_append.mp hp with h1 | h1
    · have g := (N' p (List.mem_cons_of_mem _ hp)).1
      rw [e, hit] at g
      exact (hdyn i c hP p h1).1 (by rw [← Option.some.inj g])
    · exact absurd (Heap.lt_size (N p (List.mem_cons_of_mem _ (List.mem_append_right _ h1))).1) (e ▸ Nat.lt_irrefl _)
  refine ⟨_, _, _, n, _, _, m₀, (cc, o₀) :: (dyn c₀ ++ base), J, rfl, W, ?_, ?_, ?_, (by show IsRangeIter _ _ _ _ _; rw [hn]; simpa using Heap.get?_push_size _ rfl), F.push _, (fun p hp => ⟨Heap.get?_push_of_some _ (N p hp).1, (N p hp).2⟩), (fun i s' v Q' _ hQ => wpAny_of_eq (show letOwnedTupleGo (.Name x px) (.ref s.heap.objs.size) v = pure () from rfl) hQ), ⟨c₀, o₀, w₀, rfl, hd, hk, fun _ _ => rfl, hp⟩, ?_, ?_⟩
  · intro hm
    exact absurd F.ns.lt ((List.mem_singleton.mp hm) ▸ Nat.lt_irrefl _)
  · intro b hb
    rw [List.mem_singleton.mp hb]
    exact next_is_new F
  · intro p hp hI
    exact absurd (Heap.lt_size (N p hp).1) ((List.mem_singleton.mp hI) ▸ Nat.lt_irrefl _)
  · rintro i v m₁ nx s₁ own hi ⟨_, t, rfl⟩ ⟨c, o, v1, rfl, ho, h1, h2, hp'⟩ hoff hsub hget hall hst F₁ N₁
    have hcI : @Ne Nat cc s.heap.objs.size := fun e => hoff _ (.head _) (List.mem_singleton.mpr e)
    have hIt : (s.heap.objs.size, { cls := .type "range_iterator", dict := none, data := .fields #[rawInt (a₀ + ((i + 1 : Nat) : Int) * st), rawInt ((n : Int) - ((i + 1 : Nat) : Int)), rawInt st], slots := #[] }) ∈ own :=
      hall _ (List.mem_singleton.mpr rfl) (next_is_new F) _ hst
    have hmem := N₁ (cc, o) (List.mem_append_right _ (.head _))
    refine wpAny_assign_Name (wpAny_storeName_cell hkind hx hcl ⟨o, hmem.1, ho⟩ fun hh' hv hs => ?_)
    obtain ⟨o', ho', hd'⟩ := hv
    have hLc : env.locals ≠ cc := fun e => hmem.2.1 e.symm
    have F₂ : Fr h₀ env.locals hh' m₁ := ⟨F₁.ns.sameBut hs hLc, fun b ob e => (hs.2 b (fun q => by rw [q, hmem.2.2] at e; cases e)).trans (F₁.keep b ob e), F₁.above⟩
    have N₂ : News h₀ env.locals hh' ((cc, o') :: ((dyn c ++ base) ++ own)) := by
      intro p hp
      rcases List.mem_cons.mp hp with e | hp
      · rw [e]; exact ⟨ho', hmem.2⟩
      have hmp : p ∈ own ++ (cc, o) :: (dyn c ++ base) := by
        rcases List.mem_append.mp hp with h | h
        · exact List.mem_append_right _ (List.mem_cons_of_mem _ h)
        · exact List.mem_append_left _ h
      have hN := N₁ p hmp
      refine ⟨(hs.2 _ ?_).trans hN.1, hN.2⟩
      rcases List.mem_append.mp hp with h | h
      · rcases List.mem_append.mp h with h | h
        · intro e
          have g := hN.1
          rw [e, hmem.1] at g
          have := (hdyn i c hp' p h).2 v1
          rw [← Option.some.inj g] at this
          exact this ho
        · exact hbase p h
      · intro e
        have := hsub p h
        exact hcI (e ▸ List.mem_singleton.mp this)
    rw [hkf i hi] at hd'
    refine wpAny_mono (turn c i t o' s₁ hh' s₁.toks own hi hp' hd' (cell_fr h1 h2 F₂) N₂) (fun f s₂ p => ?_) fun _ _ e => e
    cases f with
    | next =>
      obtain ⟨c', o9, v9, h', tk, m', news', e, F', N', hcm, hcd, hn', ho', hk', hr', hP⟩ := p
      have Nx : News h₀ env.locals h' ((cc, o9) :: (dyn c' ++ base)) := fun p hp => N' p ((List.mem_cons.mp hp).elim (fun q => q ▸ hcm) (hn' p))
      refine ⟨rfl, h', tk, m', (cc, o9) :: (dyn c' ++ base), e, F', fun p hp => N' p ((List.mem_append.mp hp).elim (ho' p) (fun q => (List.mem_cons.mp q).elim (fun q => q ▸ hcm) (hn' p))), ?_, c', o9, v9, rfl, hcd, hk', hr', hP⟩
      exact off hP hcd Nx (N' _ (ho' _ hIt)).1
    | brk => exact p.elim
    | cont => exact p.elim
    | ret v => exact p.elim
  · rintro h' tk m' news' F' N' _ ⟨c, o, v, rfl, ho, h1, h2, hp'⟩
    exact done c o v h' tk hp' ho (cell_fr h1 h2 F') N'
end

inductive LotsAre (led : List (Addr × Obj)) : List Value → List (List Int) → Prop
  | nil : LotsAre led [] []
  | cons {a : Addr} {us : List Value} {k : Nat} {xs : List Int} {rs : List Value} {ls : List (List Int)} : (a, listOf us.toArray k) ∈ led → IntsAre us xs → LotsAre led rs ls → LotsAre led (.ref a :: rs) (xs :: ls)
theorem LotsAre.mono {led led' : List (Addr × Obj)} (h : ∀ q ∈ led, q ∈ led') {rs : List Value} {ls : List (List Int)} (x : LotsAre led rs ls) : LotsAre led' rs ls := by
  induction x with
  | nil => exact .nil
  | cons m i _ ih => exact .cons (h _ m) i ih
theorem LotsAre.append {led : List (Addr × Obj)} {rs : List Value} {ls : List (List Int)} (x : LotsAre led rs ls) {rs' : List Value} {ls' : List (List Int)} (y : LotsAre led rs' ls') : LotsAre led (rs ++ rs') (ls ++ ls') := by
  induction x with
  | nil => exact y
  | cons m i _ ih => exact .cons m i ih
theorem LotsAre.len {led : List (Addr × Obj)} {rs : List Value} {ls : List (List Int)} (x : LotsAre led rs ls) : rs.length = ls.length := by
  induction x with
  | nil => rfl
  | cons m i _ ih => simp [ih]
theorem LotsAre.at {led : List (Addr × Obj)} {rs : List Value} {ls : List (List Int)} (x : LotsAre led rs ls) : ∀ (i : Nat) (v : Value), rs[i]? = some v → ∃ a us k xs, v = .ref a ∧ ls[i]? = some xs ∧ (a, listOf us.toArray k) ∈ led ∧ IntsAre us xs := by
  induction x with
  | nil => intro i v h; simp at h
  | @cons a us k xs _ _ m hi _ ih =>
    intro i v h
    cases i with
    | zero =>
      have : Value.ref a = v := by simpa using h
      exact ⟨a, us, k, xs, this.symm, by simp, m, hi⟩
    | succ i => simpa using ih i v (by simpa using h)
noncomputable def AllLst (lo led : List (Addr × Obj)) : Prop := ∀ q ∈ led, (q.2.cls ≠ .type "range_iterator" ∧ ∀ v, q.2.data ≠ .cell v) ∧ AllLt q.1 lo
noncomputable def LtYes (lo nw : List (Addr × Obj)) (b : Bool) (zs : List Int) (y : Value) (nw' : List (Addr × Obj)) : Prop := b = true ∧ (∀ q ∈ nw, q ∈ nw') ∧ ∃ (a : Addr) (us : List Value) (k : Nat), y = .ref a ∧ (a, listOf us.toArray k) ∈ nw' ∧ IntsAre us zs ∧ AllLt a lo
noncomputable def LtNo (nw : List (Addr × Obj)) (b : Bool) (nw' : List (Addr × Obj)) : Prop := b = false ∧ ∀ q ∈ nw, q ∈ nw'
section
variable {prog : Program} {w : World} {A : Around} {h₀ : Heap} {L : Addr} {m : Str → Option Value} {env : Env} {ct elt : PySem.Expr} {x : Str} {scope : Scope} {cl : List (Str × Addr)} {s : Shared} {Fin : List Value → List (Addr × Obj) → Prop} {news : List (Addr × Obj)}
theorem lots_rest {rs : List Value} {ls : List (List Int)} {made lo : List (Addr × Obj)} {ax : Addr} {cc : Addr} {o : Obj} (ok : List Int → Bool) (g : List Int → List Int) (hcell : (cc, o) ∈ news) (hl : LotsAre made rs ls) (hmade : ∀ p ∈ made, p ∈ news)
    (turn : ∀ (a : Addr) us k xs I oI C oC D m₂ ys nw h tk (E' : Value → Shared → Prop), xs ∈ ls → IntsAre us xs → LCg.NsObj oC m₂ → m₂ x = some (.ref a) → Fr h₀ L h m → News h₀ L h ((I, oI) :: (C, oC) :: (D, LCg.lst ys) :: (a, listOf us.toArray k) :: (cc, o) :: nw) → LCg.Off3 I C D nw → ((@Ne Nat I C) ∧ (@Ne Nat I D) ∧ (@Ne Nat C D)) → (∀ q ∈ news, q ∈ nw) →
      wpAny (model prog w) A (isTrue ct (compEnvC scope cl C env) (eval ct (compEnvC scope cl C env))) (fun b s' => if b = true then wpAny (model prog w) A (eval elt (compEnvC scope cl C env)) (LCg.CompEnd h₀ L m { s with heap := h, toks := tk } I oI C oC D (LCg.lst ys) (LCg.SrcAt h₀ ax rs.toArray) (fun y nw' => LtYes lo nw (ok xs) (g xs) y nw')) E' s'
        else LCg.CompEnd h₀ L m { s with heap := h, toks := tk } I oI C oC D (LCg.lst ys) (LCg.SrcAt h₀ ax rs.toArray) (fun _ nw' => LtNo nw (ok xs) nw') Value.none s') E' { s with heap := h, toks := tk })
    (fin : ∀ ys nw made', (∀ q ∈ news, q ∈ nw) → (∀ q ∈ made', q ∈ nw) → AllLst lo made' → LotsAre made' ys ((ls.filter ok).map g) → Fin ys nw) :
    LCt.CompRestT prog w A h₀ L m env ct elt x scope cl s (LCg.SrcAt h₀ ax rs.toArray) (fun i v => rs.toArray[i]? = some v) Fin rs.toArray.size 0 [] news := by
  have hlen : rs.toArray.size = ls.length := by rw [List.size_toArray, hl.len]
  have key : ∀ (j i : Nat) (ys : List Value) (nw made' : List (Addr × Obj)), i + j = rs.toArray.size → (∀ q ∈ news, q ∈ nw) → (∀ q ∈ made', q ∈ nw) → AllLst lo made' → LotsAre made' ys (((ls.take i).filter ok).map g) →
      LCt.CompRestT prog w A h₀ L m env ct elt x scope cl s (LCg.SrcAt h₀ ax rs.toArray) (fun i v => rs.toArray[i]? = some v) Fin j i ys nw := by
    intro j
    induction j with
    | zero =>
      intro i ys nw made' hi h1 h2 h3 h4
      have e : i = ls.length := by omega
      rw [e, List.take_length] at h4
      exact LCt.CompRestT.zero (fin ys nw made' h1 h2 h3 h4)
    | succ j ih =>
      intro i ys nw made' hi h1 h2 h3 h4
      refine LCt.CompRestT.succ ?_
      intro v I oI C oC D m₂ h tk E' hv hC hx F N off ne
      obtain ⟨a, us, k, xs, rfl, hxs, hma, hia⟩ := hl.at i v (by simpa using hv)
      have N2 : News h₀ L h ((I, oI) :: (C, oC) :: (D, LCg.lst ys) :: (a, listOf us.toArray k) :: (cc, o) :: nw) := by
        intro p hp
        simp only [List.mem_cons] at hp
        rcases hp with e | e | e | e | e | e
        · exact N p (by rw [e]; exact .head _)
        · exact N p (by rw [e]; exact .tail _ (.head _))
        · exact N p (by rw [e]; exact .tail _ (.tail _ (.head _)))
        · exact N p (by rw [e]; exact .tail _ (.tail _ (.tail _ (h1 _ (hmade _ hma)))))
        · exact N p (by rw [e]; exact .tail _ (.tail _ (.tail _ (h1 _ hcell))))
        · exact N p (.tail _ (.tail _ (.tail _ e)))
      have ht : ls.take (i + 1) = ls.take i ++ [xs] := by rw [List.take_add_one, hxs]; rfl
      refine wpAny_mono (turn a us k xs I oI C oC D m₂ ys nw h tk E' (List.mem_of_getElem? hxs) hia hC hx F N2 off ne h1) (fun b s₂ hq => ?_) fun _ _ e => e
      cases b with
      | true =>
        simp only [if_true] at hq ⊢
        refine wpAny_mono hq (fun y s₃ hr => ?_) fun _ _ e => e
        obtain ⟨h', tk', nw', e, F', N', off', hS, hb, hsub, a9, us9, k9, hy, hm9, hi9, hlo9⟩ := hr
        refine ⟨h', tk', nw', e, F', N', off', hS, ?_⟩
        refine ih (i + 1) _ nw' ((a9, listOf us9.toArray k9) :: made') (by omega) (fun q hq => hsub q (h1 q hq)) (fun q hq => (List.mem_cons.mp hq).elim (fun e => e ▸ hm9) (fun e => hsub q (h2 q e))) (fun q hq => ?_) ?_
        · rcases List.mem_cons.mp hq with e | e
          · rw [e]; exact ⟨⟨(by decide : Value.type "list" ≠ Value.type "range_iterator"), fun v h => nomatch h⟩, hlo9⟩
          · exact h3 q e
        · rw [ht, List.filter_append, List.map_append, hy]
          refine (h4.mono (fun q hq => List.mem_cons_of_mem _ hq)).append ?_
          have : ([xs].filter ok).map g = [g xs] := by simp [hb]
          rw [this]
          exact .cons (.head _) hi9 .nil
      | false =>
        simp only [Bool.false_eq_true, if_false] at hq ⊢
        obtain ⟨h', tk', nw', e, F', N', off', hS, hb, hsub⟩ := hq
        refine ⟨h', tk', nw', e, F', N', off', hS, ?_⟩
        refine ih (i + 1) _ nw' made' (by omega) (fun q hq => hsub q (h1 q hq)) (fun q hq => hsub q (h2 q hq)) h3 ?_
        have : ([xs].filter ok).map g = [] := by simp [hb]
        rw [ht, List.filter_append, List.map_append, this, List.append_nil]
        exact h4
  exact key _ 0 [] news [] (by omega) (fun _ h => h) (fun _ h => nomatch h) (fun _ h => nomatch h) .nil
end
/-- the lots that take place k + 2 too -/
noncomputable def ltOk (p : Int) (l : List Int) : Bool := l == [] || decide (l.getLast?.getD 0 < p - 1)
structure LtS where
  a : Addr
  rs : List Value
  k : Nat
  led : List (Addr × Obj)
noncomputable abbrev ltDyn (c : LtS) : List (Addr × Obj) := (c.a, listOf c.rs.toArray c.k) :: c.led
noncomputable abbrev ltPs (c : LtS) : List (Str × Value) := [(Str.ofString "lots", .ref c.a)]
noncomputable def LtInv (lo : List (Addr × Obj)) (i : Nat) (c : LtS) : Prop := AllLt c.a lo ∧ AllLst lo c.led ∧ LotsAre c.led c.rs (lotsL i)
theorem lt_dyn {lo : List (Addr × Obj)} {i : Nat} {c : LtS} (h : LtInv lo i c) : ∀ p ∈ ltDyn c, p.2.cls ≠ .type "range_iterator" ∧ ∀ v, p.2.data ≠ .cell v := by
  intro p hp
  rcases List.mem_cons.mp hp with e | e
  · rw [e]; exact ⟨(by decide : Value.type "list" ≠ Value.type "range_iterator"), fun v h => nomatch h⟩
  · exact (h.2.1 p e).1
theorem lots_small : ∀ i : Fin 6, (lotsL i.1).length ≤ 13 ∧ ∀ xs ∈ lotsL i.1, xs.length ≤ 6 := by decide +kernel
section
variable {prog : Program} {w : World} {A : Around} {E : Value → Shared → Prop} {s : Shared} {h₀ : Heap} {L D : Addr} {m : Str → Option Value} {news : List (Addr × Obj)} {vs : List Value} {ns : List Int} {n : Nat} {u : Tok}
theorem last_of {vs : List Value} {ns : List Int} (hi : IntsAre vs ns) (hne : ns ≠ []) : seqIndex? (-1) vs.length = some (vs.length - 1) ∧ ∃ t, vs[vs.length - 1]? = some (.int (ns.getLast?.getD 0) t) := by
  have hl := hi.length
  have hp : 0 < ns.length := List.length_pos_iff.mpr hne
  have h1 : ns[vs.length - 1]? = some (ns.getLast?.getD 0) := by
    rw [List.getLast?_eq_getElem?, hl]
    have : ns.length - 1 < ns.length := by omega
    simp [this]
  obtain ⟨t, ht⟩ := hi.get (vs.length - 1) _ h1
  refine ⟨?_, t, ht⟩
  have e : ((-1 : Int) + (vs.length : Int)).toNat = vs.length - 1 := by omega
  rw [seqIndex_neg (by decide) (by omega), e]
theorem sub_last {value slice : PySem.Expr} {Q : Value → Shared → Prop} (N : News h₀ L s.heap news) (hm : (D, listOf vs.toArray n) ∈ news) (hi : IntsAre vs ns) (hne : ns ≠ []) (h : ∀ t, Q (.int (ns.getLast?.getD 0) t) s)
    (hs : subscripted slice false (.ref D) (.int (-1) u) = operate [.ref D, .int (-1) u] (getItem (.ref D) (.int (-1) u)) := by with_unfolding_all rfl) :
    wpAny (model prog w) A (subscriptTail value slice (.ref D) (.int (-1) u)) Q E s := by
  obtain ⟨h1, t, h2⟩ := last_of hi hne
  exact kde_neg (PySem.IsL.isList (n := n) (N _ hm).1) (by decide) (by decide) h1 h2 (h t) hs
end
theorem lt_yes_end {h₀ h' : Heap} {L I C D D9 ax : Addr} {m : Str → Option Value} {s₁ : Shared} {oI oC oD : Obj} {tk : Nat} {led9 nw lo : List (Addr × Obj)} {us9 : List Value} {k9 kk : Nat} {rs : List Value} {zs : List Int} {ok : Bool}
    (F : Fr h₀ L h' m) (N : News h₀ L h' led9) (m0 : (D9, listOf us9.toArray k9) ∈ led9) (hi : IntsAre us9 zs) (hI : (I, oI) ∈ led9) (hC : (C, oC) ∈ led9) (hD : (D, oD) ∈ led9) (hnw : ∀ q ∈ nw, q ∈ led9) (off : LCg.Off3 I C D nw) (n1 : @LT.lt Nat _ I D9) (n2 : @LT.lt Nat _ C D9) (n3 : @LT.lt Nat _ D D9)
    (hS : (ax, listOf rs.toArray kk) ∈ nw) (hb : ok = true) (hlt : AllLt D9 nw) (hlo : ∀ q ∈ lo, q ∈ nw) :
    LCg.CompEnd h₀ L m s₁ I oI C oC D oD (LCg.SrcAt h₀ ax rs.toArray) (fun y nw' => LtYes lo nw ok zs y nw') (.ref D9) { s₁ with heap := h', toks := tk } :=
  LCg.CompEnd.intro F N ((D9, listOf us9.toArray k9) :: nw) (by
    intro p hp
    simp only [List.mem_cons] at hp
    rcases hp with e | e | e | e | e
    · rw [e]; exact hI
    · rw [e]; exact hC
    · rw [e]; exact hD
    · rw [e]; exact m0
    · exact hnw p e) ⟨⟨Nat.ne_of_gt n1, Nat.ne_of_gt n2, Nat.ne_of_gt n3⟩, off⟩ (Or.inr ⟨_, List.mem_cons_of_mem _ hS, rfl, _, rfl⟩) ⟨hb, fun q hq => List.mem_cons_of_mem _ hq, D9, us9, k9, rfl, .head _, hi, allLt_of fun q hq => kst_ltOf hlt q (hlo q hq)⟩
theorem lt_no_end {h₀ h' : Heap} {L I C D ax : Addr} {m : Str → Option Value} {s₁ : Shared} {oI oC oD : Obj} {tk : Nat} {led9 nw : List (Addr × Obj)} {kk : Nat} {rs : List Value} {ok : Bool} {y : Value}
    (F : Fr h₀ L h' m) (N : News h₀ L h' led9) (hI : (I, oI) ∈ led9) (hC : (C, oC) ∈ led9) (hD : (D, oD) ∈ led9) (hnw : ∀ q ∈ nw, q ∈ led9) (off : LCg.Off3 I C D nw)
    (hS : (ax, listOf rs.toArray kk) ∈ nw) (hb : ok = false) :
    LCg.CompEnd h₀ L m s₁ I oI C oC D oD (LCg.SrcAt h₀ ax rs.toArray) (fun _ nw' => LtNo nw ok nw') y { s₁ with heap := h', toks := tk } :=
  LCg.CompEnd.intro F N nw (by
    intro p hp
    simp only [List.mem_cons] at hp
    rcases hp with e | e | e | e
    · rw [e]; exact hI
    · rw [e]; exact hC
    · rw [e]; exact hD
    · exact hnw p e) off (Or.inr ⟨_, hS, rfl, _, rfl⟩) ⟨hb, fun q hq => hq⟩
theorem lt_ok0 {p : Int} {xs : List Int} (h : decide (xs = []) = true) : ltOk p xs = true := by
  have : xs = [] := of_decide_eq_true h
  subst this; rfl
theorem lt_ok1 {p : Int} {xs : List Int} (h1 : xs.getLast?.getD 0 < p - 1) : ltOk p xs = true := by
  unfold ltOk; simp [h1]
theorem lt_ok2 {p : Int} {xs : List Int} (h : decide (xs = []) = false) (h1 : ¬ xs.getLast?.getD 0 < p - 1) : ltOk p xs = false := by
  unfold ltOk
  have : xs ≠ [] := of_decide_eq_false h
  simp [this, h1]
end
/- part lots -/
section
local macro_rules | `(tactic| walk_at "subscriptTail Name UnaryOp ref int") => `(tactic| (k_here; (with_reducible show wpAny _ _ (subscriptTail _ _ (Value.ref _) (Value.int (-1) _)) _ _ _); (with_unfolding_all refine' sub_last ?k1 ?k2 ?k3 ?k4 ?_ ?k5; (case k1 => k_asm); (case k2 => k_memK); (case k3 => assumption); (case k4 => exact of_decide_eq_false (by assumption)); (case k5 => with_unfolding_all rfl); k_whole); intro _))
theorem lots_ok : Keeps 147 lotsC := by
  w_top off
  unfold Keeps
  k_fill
  intro w mean mg mb d dp un gd cn cs a ccd cl outer A₀ base h₀ L m news s vs Q E B F X N T hk hR hok hd hu hret
  obtain ⟨tn, rfl⟩ := hR
  dsimp only [lotsC] at hok hd hu hret ⊢
  refine wpAny_call ?_
  k_dflt ((refine' code_defC ?k1 ?k2 ?k3 ?k4 ?k5 ?kA ?kF ?kK ?k6 ?k7 ?k8 ?k9 ?kB ?kD ?_ ?c2 ?c3 ?c4; (case kA => exact rfl); (case kF => exact rfl); (case kK => assumption); (case k1 => k_asm); (case k2 => k_asm); (case k3 => k_asm); (case k4 => k_asm); (case k5 => k_asm); (case k6 => k_is); (case k7 => k_is); (case k8 => ktr_room); (case k9 => exact BindsTo.of_eq rfl); (case kB => exact rfl); (case kD => decide +kernel); (case c2 => exact rfl); (case c3 => exact rfl); (case c4 => exact rfl); k_whole; intro g' L' h1' tk1' cells' FG' F' N' Y' B' X' T' l1; (try k_lt l1); k_cells Y'; (try simp only [List.cons_append, List.nil_append] at N'); (try dsimp only); (try k_fold)))
  have kMark := kstMark
  have hlc : AllLt (L' + 1) news := allLt_of fun p hp => Nat.lt_succ_of_lt (l1 p hp)
  k_with_none
  (repeat' (first | (k_unfold; (try dsimp only)) | (k_end; wrow_close) | ((((fail_if_success (with_reducible show wpAny _ _ (PySem.exec (Stmt.While _ _ _ _) _) _ _ _)); (fail_if_success (with_reducible show wpAny _ _ (PySem.exec (Stmt.For _ _ _ _ _) _) _ _ _)); (fail_if_success (with_reducible show wpAny _ _ (pyIter (Value.ref _)) (fun it s₂ => LoopAtV _ _ _ _ _ _ _ _ _ it s₂) _ _)); (fail_if_success (with_reducible show wpAny _ _ (pyIter (Value.ref _)) (fun it s₂ => PairAt3 _ _ _ _ _ _ _ _ _ _ it s₂) _ _)))); first | walk1 | (dsimp only; walk1)) | (leave1; walk_say "STEP leave1"; try dsimp only) | fail "no step"))
  rename_i oc hdc li _ l1a lo _ l1b _ F1 N1
  (with_unfolding_all refine For_invTF F1 ?_ (by intro _; rfl))
  (repeat' (first | (k_unfold; (try dsimp only)) | (k_end; wrow_close) | ((fail_if_success (with_reducible show wpAny _ _ (PySem.eval (Expr.ListComp _ _ _ _) _) _ _ _)); (fail_if_success (with_reducible show wpAny _ _ (PySem.exec (Stmt.Assign _ (Expr.ListComp _ _ _ _) _) _) _ _ _)); (fail_if_success (with_reducible show wpAny _ _ (PySem.call (Value.ref 116) _) _ _ _)); (fail_if_success (with_reducible show LCg.CompSrc _ _ _ _ _ _ _ _ _ _ _ _ _ _)); (fail_if_success (with_reducible show LCt.CompSrcT _ _ _ _ _ _ _ _ _ _ _ _ _ _ _)); (((fail_if_success (with_reducible show wpAny _ _ (PySem.exec (Stmt.While _ _ _ _) _) _ _ _)); (fail_if_success (with_reducible show wpAny _ _ (PySem.exec (Stmt.For _ _ _ _ _) _) _ _ _)); (fail_if_success (with_reducible show wpAny _ _ (pyIter (Value.ref _)) (fun it s₂ => LoopAtV _ _ _ _ _ _ _ _ _ it s₂) _ _)); (fail_if_success (with_reducible show wpAny _ _ (pyIter (Value.ref _)) (fun it s₂ => PairAt3 _ _ _ _ _ _ _ _ _ _ it s₂) _ _)))); first | walk1 | (dsimp only; walk1)) | (leave1; walk_say "STEP leave1"; try dsimp only) | fail "no step"))
  (rename Fr _ _ _ _ => F2)
  (rename News _ _ _ _ => N2)
  (rename IsRange _ _ _ _ _ _ _ _ => rg2)
  have hdn : ((d - 2).toNat : Int) = d - 2 := by omega
  (with_unfolding_all refine' for_range_cell (σ := LtS) (n := (d - 2).toNat) (cc := L' + 1) (o₀ := oc) (w₀ := none) ltDyn news ltPs (fun i => (i : Int) + 2) (LtInv news) ⟨lo, [.ref li], 0, [(li, listOf (List.toArray []) 0)]⟩ ?hkf rfl rfl rfl rfl rg2 ?hsm ?hsz F2 ?hN hdc ?hk ?hp (fun i c h => lt_dyn h) ?hb ?_ ?_)
  case hkf => (intro i hi; omega)
  case hsm => exact small_one (by decide) (by decide) (by omega) (by omega)
  case hsz => (rw [rangeSize_nat])
  case hN =>
    exact news_sub N2 (fun p hp => by
      simp only [List.cons_append, List.nil_append] at hp
      rcases List.mem_cons.mp hp with e | hp
      · rw [e]; exact .tail _ (.tail _ (.head _))
      rcases List.mem_cons.mp hp with e | hp
      · rw [e]; exact .head _
      rcases List.mem_cons.mp hp with e | hp
      · rw [e]; exact .tail _ (.head _)
      exact .tail _ (.tail _ (.tail _ hp)))
  case hk => (intro p hp; rw [List.mem_singleton.mp hp]; rfl)
  case hp =>
    refine ⟨by (first | assumption | exact allLt_of (by assumption) | exact lt_app (by assumption) | exact And.right (by assumption) | exact lt_app (And.right (by assumption)) | exact And.right (And.right (by assumption)) | exact lt_app (And.right (And.right (by assumption))) | exact And.right (And.right (And.right (by assumption))) | exact lt_app (And.right (And.right (And.right (by assumption)))) | exact And.right (And.right (And.right (And.right (by assumption)))) | exact lt_app (And.right (And.right (And.right (And.right (by assumption))))) | exact And.right (And.right (And.right (And.right (And.right (by assumption))))) | exact lt_app (And.right (And.right (And.right (And.right (And.right (by assumption)))))) | exact And.right (And.right (And.right (And.right (And.right (And.right (by assumption)))))) | exact lt_app (And.right (And.right (And.right (And.right (And.right (And.right (by assumption))))))) | exact And.right (And.right (And.right (And.right (And.right (And.right (And.right (by assumption))))))) | exact lt_app (And.right (And.right (And.right (And.right (And.right (And.right (And.right (by assumption)))))))) | exact And.right (And.right (And.right (And.right (And.right (And.right (And.right (And.right (by assumption)))))))) | exact lt_app (And.right (And.right (And.right (And.right (And.right (And.right (And.right (And.right (by assumption))))))))) | exact And.right (And.right (And.right (And.right (And.right (And.right (And.right (And.right (And.right (by assumption))))))))) | exact lt_app (And.right (And.right (And.right (And.right (And.right (And.right (And.right (And.right (And.right (by assumption)))))))))) | exact And.right (And.right (And.right (And.right (And.right (And.right (And.right (And.right (And.right (And.right (by assumption)))))))))) | exact lt_app (And.right (And.right (And.right (And.right (And.right (And.right (And.right (And.right (And.right (And.right (by assumption))))))))))) | exact And.right (And.right (And.right (And.right (And.right (And.right (And.right (And.right (And.right (And.right (And.right (by assumption))))))))))) | exact lt_app (And.right (And.right (And.right (And.right (And.right (And.right (And.right (And.right (And.right (And.right (And.right (by assumption)))))))))))) | exact And.right (And.right (And.right (And.right (And.right (And.right (And.right (And.right (And.right (And.right (And.right (And.right (by assumption)))))))))))) | exact lt_app (And.right (And.right (And.right (And.right (And.right (And.right (And.right (And.right (And.right (And.right (And.right (And.right (by assumption))))))))))))) | exact And.right (And.right (And.right (And.right (And.right (And.right (And.right (And.right (And.right (And.right (And.right (And.right (And.right (by assumption))))))))))))) | exact lt_app (And.right (And.right (And.right (And.right (And.right (And.right (And.right (And.right (And.right (And.right (And.right (And.right (And.right (by assumption)))))))))))))) | exact And.right (And.right (And.right (And.right (And.right (And.right (And.right (And.right (And.right (And.right (And.right (And.right (And.right (And.right (by assumption)))))))))))))) | exact lt_app (And.right (And.right (And.right (And.right (And.right (And.right (And.right (And.right (And.right (And.right (And.right (And.right (And.right (And.right (by assumption))))))))))))))) | exact And.right (And.right (And.right (And.right (And.right (And.right (And.right (And.right (And.right (And.right (And.right (And.right (And.right (And.right (And.right (by assumption))))))))))))))) | exact lt_app (And.right (And.right (And.right (And.right (And.right (And.right (And.right (And.right (And.right (And.right (And.right (And.right (And.right (And.right (And.right (by assumption)))))))))))))))) | exact And.right (And.right (And.right (And.right (And.right (And.right (And.right (And.right (And.right (And.right (And.right (And.right (And.right (And.right (And.right (And.right (by assumption)))))))))))))))) | exact lt_app (And.right (And.right (And.right (And.right (And.right (And.right (And.right (And.right (And.right (And.right (And.right (And.right (And.right (And.right (And.right (And.right (by assumption)))))))))))))))))), ?_, ?_⟩
    · intro q hq
      rw [List.mem_singleton.mp hq]; exact ⟨⟨(by decide : Value.type "list" ≠ Value.type "range_iterator"), fun v h => nomatch h⟩, by (first | assumption | exact allLt_of (by assumption) | exact lt_app (by assumption) | exact And.right (by assumption) | exact lt_app (And.right (by assumption)) | exact And.right (And.right (by assumption)) | exact lt_app (And.right (And.right (by assumption))) | exact And.right (And.right (And.right (by assumption))) | exact lt_app (And.right (And.right (And.right (by assumption)))) | exact And.right (And.right (And.right (And.right (by assumption)))) | exact lt_app (And.right (And.right (And.right (And.right (by assumption))))) | exact And.right (And.right (And.right (And.right (And.right (by assumption))))) | exact lt_app (And.right (And.right (And.right (And.right (And.right (by assumption)))))) | exact And.right (And.right (And.right (And.right (And.right (And.right (by assumption)))))) | exact lt_app (And.right (And.right (And.right (And.right (And.right (And.right (by assumption))))))) | exact And.right (And.right (And.right (And.right (And.right (And.right (And.right (by assumption))))))) | exact lt_app (And.right (And.right (And.right (And.right (And.right (And.right (And.right (by assumption)))))))) | exact And.right (And.right (And.right (And.right (And.right (And.right (And.right (And.right (by assumption)))))))) | exact lt_app (And.right (And.right (And.right (And.right (And.right (And.right (And.right (And.right (by assumption))))))))) | exact And.right (And.right (And.right (And.right (And.right (And.right (And.right (And.right (And.right (by assumption))))))))) | exact lt_app (And.right (And.right (And.right (And.right (And.right (And.right (And.right (And.right (And.right (by assumption)))))))))) | exact And.right (And.right (And.right (And.right (And.right (And.right (And.right (And.right (And.right (And.right (by assumption)))))))))) | exact lt_app (And.right (And.right (And.right (And.right (And.right (And.right (And.right (And.right (And.right (And.right (by assumption))))))))))) | exact And.right (And.right (And.right (And.right (And.right (And.right (And.right (And.right (And.right (And.right (And.right (by assumption))))))))))) | exact lt_app (And.right (And.right (And.right (And.right (And.right (And.right (And.right (And.right (And.right (And.right (And.right (by assumption)))))))))))) | exact And.right (And.right (And.right (And.right (And.right (And.right (And.right (And.right (And.right (And.right (And.right (And.right (by assumption)))))))))))) | exact lt_app (And.right (And.right (And.right (And.right (And.right (And.right (And.right (And.right (And.right (And.right (And.right (And.right (by assumption))))))))))))) | exact And.right (And.right (And.right (And.right (And.right (And.right (And.right (And.right (And.right (And.right (And.right (And.right (And.right (by assumption))))))))))))) | exact lt_app (And.right (And.right (And.right (And.right (And.right (And.right (And.right (And.right (And.right (And.right (And.right (And.right (And.right (by assumption)))))))))))))) | exact And.right (And.right (And.right (And.right (And.right (And.right (And.right (And.right (And.right (And.right (And.right (And.right (And.right (And.right (by assumption)))))))))))))) | exact lt_app (And.right (And.right (And.right (And.right (And.right (And.right (And.right (And.right (And.right (And.right (And.right (And.right (And.right (And.right (by assumption))))))))))))))) | exact And.right (And.right (And.right (And.right (And.right (And.right (And.right (And.right (And.right (And.right (And.right (And.right (And.right (And.right (And.right (by assumption))))))))))))))) | exact lt_app (And.right (And.right (And.right (And.right (And.right (And.right (And.right (And.right (And.right (And.right (And.right (And.right (And.right (And.right (And.right (by assumption)))))))))))))))) | exact And.right (And.right (And.right (And.right (And.right (And.right (And.right (And.right (And.right (And.right (And.right (And.right (And.right (And.right (And.right (And.right (by assumption)))))))))))))))) | exact lt_app (And.right (And.right (And.right (And.right (And.right (And.right (And.right (And.right (And.right (And.right (And.right (And.right (And.right (And.right (And.right (And.right (by assumption))))))))))))))))))⟩
    · exact .cons (.head _) .nil .nil
  case hb => (intro p hp e; exact absurd (l1 p hp) (by rw [e]; exact Nat.not_lt.mpr (Nat.le_succ _)))
  · rintro ⟨la, rs, k, led⟩ i t o s9 h tk9 own hi ⟨q1, q2, q3⟩ ho kFr kNews
    (try dsimp only [kstB, ltPs] at kFr); (try dsimp only [ltDyn] at kNews); (try simp only [List.cons_append, List.nil_append] at kNews); dsimp only at q1 q2 q3
    have hsm := lots_small ⟨i, by omega⟩
    have hsz : rs.toArray.size ≤ sizeLine := by
      have h2 := hsm.1
      rw [List.size_toArray, q3.len, PySem.sizeLine_eq]; dsimp only at h2; omega
    (repeat' (first | (k_unfold; (try dsimp only)) | (k_end; wrow_close) | ((fail_if_success (with_reducible show wpAny _ _ (PySem.eval (Expr.ListComp _ _ _ _) _) _ _ _)); (fail_if_success (with_reducible show wpAny _ _ (PySem.exec (Stmt.Assign _ (Expr.ListComp _ _ _ _) _) _) _ _ _)); (fail_if_success (with_reducible show wpAny _ _ (PySem.call (Value.ref 116) _) _ _ _)); (fail_if_success (with_reducible show LCg.CompSrc _ _ _ _ _ _ _ _ _ _ _ _ _ _)); (fail_if_success (with_reducible show LCt.CompSrcT _ _ _ _ _ _ _ _ _ _ _ _ _ _ _)); (((fail_if_success (with_reducible show wpAny _ _ (PySem.exec (Stmt.While _ _ _ _) _) _ _ _)); (fail_if_success (with_reducible show wpAny _ _ (PySem.exec (Stmt.For _ _ _ _ _) _) _ _ _)); (fail_if_success (with_reducible show wpAny _ _ (pyIter (Value.ref _)) (fun it s₂ => LoopAtV _ _ _ _ _ _ _ _ _ it s₂) _ _)); (fail_if_success (with_reducible show wpAny _ _ (pyIter (Value.ref _)) (fun it s₂ => PairAt3 _ _ _ _ _ _ _ _ _ _ it s₂) _ _)))); first | walk1 | (dsimp only; walk1)) | (leave1; walk_say "STEP leave1"; try dsimp only) | fail "no step"))
    (k_dflt (refine LCt.ListComp_T (F₀ := by k_asm) (by with_unfolding_all rfl) (by decide) (by rfl) (by decide) (by rfl) ?_); (first | walk1 | (dsimp only; walk1)); (k_dflt (refine LCt.CompSrcT.ledger (by rfl) (by k_asm) (by k_asm) (by k_memK) (by assumption) ?_)); intro g')
    refine' lots_rest (made := led) (lo := news) (cc := L' + 1) (o := o) (ltOk ((i : Int) + 2)) (fun l => l ++ [(i : Int) + 2]) (by k_memK) q3 (fun p9 h9 => .tail _ (.tail _ (List.mem_append_left _ (List.mem_append_left _ h9)))) (fun a us k xs I' oI' C' oC' D' m' ys' nw h' tk' E' hxs hia hC' hx' F' N' off' ne' hsub => ?_) (fun ys nw made' hsub hm' hl' hL' => ?_)
    · have hlx := hsm.2 xs hxs
      have hS9 := hsub _ (.tail _ (.head _))
      have hlo9 : ∀ q ∈ news, q ∈ nw := fun q hq => hsub q (.tail _ (.tail _ (List.mem_append_left _ (List.mem_append_right _ hq))))
      (repeat' (first | (k_unfold; (try dsimp only)) | (k_end; wrow_close) | ((fail_if_success (with_reducible show wpAny _ _ (PySem.eval (Expr.ListComp _ _ _ _) _) _ _ _)); (fail_if_success (with_reducible show wpAny _ _ (PySem.exec (Stmt.Assign _ (Expr.ListComp _ _ _ _) _) _) _ _ _)); (fail_if_success (with_reducible show wpAny _ _ (PySem.call (Value.ref 116) _) _ _ _)); (fail_if_success (with_reducible show LCg.CompSrc _ _ _ _ _ _ _ _ _ _ _ _ _ _)); (fail_if_success (with_reducible show LCt.CompSrcT _ _ _ _ _ _ _ _ _ _ _ _ _ _ _)); (((fail_if_success (with_reducible show wpAny _ _ (PySem.exec (Stmt.While _ _ _ _) _) _ _ _)); (fail_if_success (with_reducible show wpAny _ _ (PySem.exec (Stmt.For _ _ _ _ _) _) _ _ _)); (fail_if_success (with_reducible show wpAny _ _ (pyIter (Value.ref _)) (fun it s₂ => LoopAtV _ _ _ _ _ _ _ _ _ it s₂) _ _)); (fail_if_success (with_reducible show wpAny _ _ (pyIter (Value.ref _)) (fun it s₂ => PairAt3 _ _ _ _ _ _ _ _ _ _ it s₂) _ _)))); first | walk1 | (dsimp only; walk1)) | (leave1; walk_say "STEP leave1"; try dsimp only) | fail "no step"))
      all_goals first
        | (rename News _ _ _ _ => nE'; exact lt_yes_end (by assumption) nE' (by k_memK) (by assumption) (by k_memK) (by k_memK) (by k_memK) (by intro p9 h9; kst_mem) (by assumption) (by omega) (by omega) (by omega) hS9 (by first | exact lt_ok0 (by assumption) | exact lt_ok1 (by assumption)) (by (first | assumption | exact allLt_of (by assumption) | exact lt_app (by assumption) | exact And.right (by assumption) | exact lt_app (And.right (by assumption)) | exact And.right (And.right (by assumption)) | exact lt_app (And.right (And.right (by assumption))) | exact And.right (And.right (And.right (by assumption))) | exact lt_app (And.right (And.right (And.right (by assumption)))) | exact And.right (And.right (And.right (And.right (by assumption)))) | exact lt_app (And.right (And.right (And.right (And.right (by assumption))))) | exact And.right (And.right (And.right (And.right (And.right (by assumption))))) | exact lt_app (And.right (And.right (And.right (And.right (And.right (by assumption)))))) | exact And.right (And.right (And.right (And.right (And.right (And.right (by assumption)))))) | exact lt_app (And.right (And.right (And.right (And.right (And.right (And.right (by assumption))))))) | exact And.right (And.right (And.right (And.right (And.right (And.right (And.right (by assumption))))))) | exact lt_app (And.right (And.right (And.right (And.right (And.right (And.right (And.right (by assumption)))))))) | exact And.right (And.right (And.right (And.right (And.right (And.right (And.right (And.right (by assumption)))))))) | exact lt_app (And.right (And.right (And.right (And.right (And.right (And.right (And.right (And.right (by assumption))))))))) | exact And.right (And.right (And.right (And.right (And.right (And.right (And.right (And.right (And.right (by assumption))))))))) | exact lt_app (And.right (And.right (And.right (And.right (And.right (And.right (And.right (And.right (And.right (by assumption)))))))))) | exact And.right (And.right (And.right (And.right (And.right (And.right (And.right (And.right (And.right (And.right (by assumption)))))))))) | exact lt_app (And.right (And.right (And.right (And.right (And.right (And.right (And.right (And.right (And.right (And.right (by assumption))))))))))) | exact And.right (And.right (And.right (And.right (And.right (And.right (And.right (And.right (And.right (And.right (And.right (by assumption))))))))))) | exact lt_app (And.right (And.right (And.right (And.right (And.right (And.right (And.right (And.right (And.right (And.right (And.right (by assumption)))))))))))) | exact And.right (And.right (And.right (And.right (And.right (And.right (And.right (And.right (And.right (And.right (And.right (And.right (by assumption)))))))))))) | exact lt_app (And.right (And.right (And.right (And.right (And.right (And.right (And.right (And.right (And.right (And.right (And.right (And.right (by assumption))))))))))))) | exact And.right (And.right (And.right (And.right (And.right (And.right (And.right (And.right (And.right (And.right (And.right (And.right (And.right (by assumption))))))))))))) | exact lt_app (And.right (And.right (And.right (And.right (And.right (And.right (And.right (And.right (And.right (And.right (And.right (And.right (And.right (by assumption)))))))))))))) | exact And.right (And.right (And.right (And.right (And.right (And.right (And.right (And.right (And.right (And.right (And.right (And.right (And.right (And.right (by assumption)))))))))))))) | exact lt_app (And.right (And.right (And.right (And.right (And.right (And.right (And.right (And.right (And.right (And.right (And.right (And.right (And.right (And.right (by assumption))))))))))))))) | exact And.right (And.right (And.right (And.right (And.right (And.right (And.right (And.right (And.right (And.right (And.right (And.right (And.right (And.right (And.right (by assumption))))))))))))))) | exact lt_app (And.right (And.right (And.right (And.right (And.right (And.right (And.right (And.right (And.right (And.right (And.right (And.right (And.right (And.right (And.right (by assumption)))))))))))))))) | exact And.right (And.right (And.right (And.right (And.right (And.right (And.right (And.right (And.right (And.right (And.right (And.right (And.right (And.right (And.right (And.right (by assumption)))))))))))))))) | exact lt_app (And.right (And.right (And.right (And.right (And.right (And.right (And.right (And.right (And.right (And.right (And.right (And.right (And.right (And.right (And.right (And.right (by assumption))))))))))))))))))) hlo9)
        | (rename News _ _ _ _ => nE'; exact lt_no_end (by assumption) nE' (by k_memK) (by k_memK) (by k_memK) (by intro p9 h9; kst_mem) (by assumption) hS9 (lt_ok2 (by assumption) (by assumption)))
    · intro D1 h1 tk1 F1 N1 o1
      have hy13 : ys.length ≤ 13 := by
        rw [hL'.len, List.length_map]
        exact Nat.le_trans (List.length_filter_le _ _) hsm.1
      (repeat' (first | (k_unfold; (try dsimp only)) | (k_end; wrow_close) | ((fail_if_success (with_reducible show wpAny _ _ (PySem.eval (Expr.ListComp _ _ _ _) _) _ _ _)); (fail_if_success (with_reducible show wpAny _ _ (PySem.exec (Stmt.Assign _ (Expr.ListComp _ _ _ _) _) _) _ _ _)); (fail_if_success (with_reducible show wpAny _ _ (PySem.call (Value.ref 116) _) _ _ _)); (fail_if_success (with_reducible show LCg.CompSrc _ _ _ _ _ _ _ _ _ _ _ _ _ _)); (fail_if_success (with_reducible show LCt.CompSrcT _ _ _ _ _ _ _ _ _ _ _ _ _ _ _)); (((fail_if_success (with_reducible show wpAny _ _ (PySem.exec (Stmt.While _ _ _ _) _) _ _ _)); (fail_if_success (with_reducible show wpAny _ _ (PySem.exec (Stmt.For _ _ _ _ _) _) _ _ _)); (fail_if_success (with_reducible show wpAny _ _ (pyIter (Value.ref _)) (fun it s₂ => LoopAtV _ _ _ _ _ _ _ _ _ it s₂) _ _)); (fail_if_success (with_reducible show wpAny _ _ (pyIter (Value.ref _)) (fun it s₂ => PairAt3 _ _ _ _ _ _ _ _ _ _ it s₂) _ _)))); first | walk1 | (dsimp only; walk1)) | (leave1; walk_say "STEP leave1"; try dsimp only) | fail "no step"))
      refine kmk_add_lit (its := rs.toArray) (its2 := ys.toArray) (zs := rs ++ ys) F1 N1 (PySem.IsL.isList (n := k) (N1 _ (.tail _ (hsub _ (.tail _ (.head _))))).1) (PySem.IsL.isList (n := ys.length) (N1 _ (.head _)).1) (by simp) ?_ (by
        have h2 := hsm.1
        have h3 := q3.len
        dsimp only at h2
        simp only [PySem.sizeLine_eq]
        omega)
      intro D2 h2 F2 N2 l2
      (repeat' (first | (k_unfold; (try dsimp only)) | (k_end; wrow_close) | ((fail_if_success (with_reducible show wpAny _ _ (PySem.eval (Expr.ListComp _ _ _ _) _) _ _ _)); (fail_if_success (with_reducible show wpAny _ _ (PySem.exec (Stmt.Assign _ (Expr.ListComp _ _ _ _) _) _) _ _ _)); (fail_if_success (with_reducible show wpAny _ _ (PySem.call (Value.ref 116) _) _ _ _)); (fail_if_success (with_reducible show LCg.CompSrc _ _ _ _ _ _ _ _ _ _ _ _ _ _)); (fail_if_success (with_reducible show LCt.CompSrcT _ _ _ _ _ _ _ _ _ _ _ _ _ _ _)); (((fail_if_success (with_reducible show wpAny _ _ (PySem.exec (Stmt.While _ _ _ _) _) _ _ _)); (fail_if_success (with_reducible show wpAny _ _ (PySem.exec (Stmt.For _ _ _ _ _) _) _ _ _)); (fail_if_success (with_reducible show wpAny _ _ (pyIter (Value.ref _)) (fun it s₂ => LoopAtV _ _ _ _ _ _ _ _ _ it s₂) _ _)); (fail_if_success (with_reducible show wpAny _ _ (pyIter (Value.ref _)) (fun it s₂ => PairAt3 _ _ _ _ _ _ _ _ _ _ it s₂) _ _)))); first | walk1 | (dsimp only; walk1)) | (leave1; walk_say "STEP leave1"; try dsimp only) | fail "no step"))
      dsimp only [TurnC]
      (rename Fr _ _ _ _ => F9)
      (rename News _ _ _ _ => N9)
      refine ⟨⟨D2, rs ++ ys, 0, led ++ made'⟩, o, _, _, _, _, _, rfl, F9, N9, ?m1, ho, ?m2, ?m3, ?ps, ?off, ?inv⟩
      case m1 => exact .tail _ (.tail _ (hsub _ (.head _)))
      case m2 =>
        intro p hp
        rcases List.mem_append.mp hp with hp | hp
        · rcases List.mem_cons.mp hp with e | hp
          · rw [e]; exact .head _
          · rcases List.mem_append.mp hp with hp | hp
            · exact .tail _ (.tail _ (hsub _ (.tail _ (.tail _ (List.mem_append_left _ (List.mem_append_left _ hp))))))
            · exact .tail _ (.tail _ (hm' _ hp))
        · exact .tail _ (.tail _ (hsub _ (.tail _ (.tail _ (List.mem_append_left _ (List.mem_append_right _ hp))))))
      case m3 => exact fun p hp => .tail _ (.tail _ (hsub _ (.tail _ (.tail _ (List.mem_append_right _ hp)))))
      case ps => (intro p hp; rw [List.mem_singleton.mp hp]; with_unfolding_all rfl)
      case off =>
        intro z hz
        have hz' : z ≠ Str.ofString "lots" := hz _ (.head _)
        simp [hz']
      case inv =>
        refine ⟨allLt_of fun q hq => l2 q (.tail _ (hsub _ (.tail _ (.tail _ (List.mem_append_left _ (List.mem_append_right _ hq)))))), fun q hq => (List.mem_append.mp hq).elim (q2 q) (hl' q), ?_⟩
        exact (q3.mono (fun q hq => List.mem_append_left _ hq)).append (hL'.mono (fun q hq => List.mem_append_right _ hq))
  · rintro ⟨la, rs, k, led⟩ o v h tk9 ⟨q1, q2, q3⟩ ho kFr kNews
    (try dsimp only [kstB, ltPs] at kFr); (try dsimp only [ltDyn] at kNews); (try simp only [List.cons_append, List.nil_append] at kNews); dsimp only at q1 q2 q3
    (repeat' (first | (k_unfold; (try dsimp only)) | (k_end; wrow_close) | ((fail_if_success (with_reducible show wpAny _ _ (PySem.eval (Expr.ListComp _ _ _ _) _) _ _ _)); (fail_if_success (with_reducible show wpAny _ _ (PySem.exec (Stmt.Assign _ (Expr.ListComp _ _ _ _) _) _) _ _ _)); (fail_if_success (with_reducible show wpAny _ _ (PySem.call (Value.ref 116) _) _ _ _)); (fail_if_success (with_reducible show LCg.CompSrc _ _ _ _ _ _ _ _ _ _ _ _ _ _)); (fail_if_success (with_reducible show LCt.CompSrcT _ _ _ _ _ _ _ _ _ _ _ _ _ _ _)); (((fail_if_success (with_reducible show wpAny _ _ (PySem.exec (Stmt.While _ _ _ _) _) _ _ _)); (fail_if_success (with_reducible show wpAny _ _ (PySem.exec (Stmt.For _ _ _ _ _) _) _ _ _)); (fail_if_success (with_reducible show wpAny _ _ (pyIter (Value.ref _)) (fun it s₂ => LoopAtV _ _ _ _ _ _ _ _ _ it s₂) _ _)); (fail_if_success (with_reducible show wpAny _ _ (pyIter (Value.ref _)) (fun it s₂ => PairAt3 _ _ _ _ _ _ _ _ _ _ it s₂) _ _)))); first | walk1 | (dsimp only; walk1)) | (leave1; walk_say "STEP leave1"; try dsimp only) | fail "no step"))
    (rename Fr _ _ _ _ => kF9)
    (rename News _ _ _ _ => kN9)
    exact hret _ ((la, listOf rs.toArray k) :: led) _ _ kF9 (news_sub kN9 (fun p hp => .tail _ hp)) (fun q hq p hp => (List.mem_cons.mp hp).elim (fun e => by rw [e]; exact kst_ltOf q1 q hq) (fun e => kst_ltOf (q2 p e).2 q hq)) ⟨la, rs, k, led, rfl, rfl, q3.at, q3.len⟩
end
/- part mainp -/
section
section
variable {prog : Program} {w : World} {A : Around} {E : Value → Shared → Prop} {s : Shared} {h₀ : Heap} {L : Addr} {m : Str → Option Value}
/-- a draw: what came back, and the hutch one further -/
noncomputable def BredOut (h₀ : Heap) (L : Addr) (m : Str → Option Value) (hu st : Addr) (k many : Int) (rest : List (Addr × Obj)) (s : Shared) (v : Value) (s' : Shared) : Prop :=
  ∃ (r : Int) (t : Tok) (h' : Heap) (tk : Nat) (tk' : Tok) (c' : Nat), v = .int r t ∧ 0 ≤ r ∧ r < many ∧ s' = { s with heap := h', toks := tk } ∧ Fr h₀ L h' m ∧ News h₀ L h' ((hu, listOf #[.int (k + 1) tk', .ref st] c') :: rest)
theorem bred_end {hu st : Addr} {k many : Int} {rest news' : List (Addr × Obj)} {r x : Int} {t : Tok} {h' : Heap} {tk : Nat} {tk' : Tok} {c' : Nat} (hm : 0 < many) (e : r = x.fmod many)
    (F : Fr h₀ L h' m) (N : News h₀ L h' news') (h1 : (hu, listOf #[.int (k + 1) tk', .ref st] c') ∈ news') (h2 : ∀ p ∈ rest, p ∈ news') : BredOut h₀ L m hu st k many rest s (.int r t) { s with heap := h', toks := tk } :=
  ⟨r, t, h', tk, tk', c', rfl, e ▸ fmod_lo x hm, e ▸ fmod_hi x hm, rfl, F, fun p hp => N p ((List.mem_cons.mp hp).elim (fun q => q ▸ h1) (h2 p))⟩
end
/-- what a turn of the told comprehension makes -/
noncomputable def TdYes (lo nw : List (Addr × Obj)) (wd n : Int) (y : Value) (nw' : List (Addr × Obj)) : Prop := (∀ q ∈ nw, q ∈ nw') ∧ ∃ (a : Addr) (us : List Value) (k : Nat) (xs : List Int), y = .ref a ∧ (a, listOf us.toArray k) ∈ nw' ∧ IntsAre us xs ∧ Dg (2 ^ wd.toNat) xs n ∧ AllLt a lo
theorem LD.mono {n1 n2 : List (Addr × Obj)} {v : Value} {w n : Int} (h : ∀ q ∈ n1, q ∈ n2) (x : LD n1 v w n) : LD n2 v w n := by
  obtain ⟨a, us, k, xs, e, hm, r⟩ := x
  exact ⟨a, us, k, xs, e, h _ hm, r⟩
noncomputable def ToldAre (tl : List (Addr × Obj)) (vs : List Value) (wd : Int) : Prop := vs.length = 11 ∧ ∀ i, i < 11 → LD tl (vs.getD i .none) wd (fibZ i)
theorem told_of {tl news : List (Addr × Obj)} {vs : List Value} {wd : Int} {a : Addr} {k : Nat} (h : ToldAre tl vs wd) (hm : (a, listOf vs.toArray k) ∈ news) (hs : ∀ q ∈ tl, q ∈ news) : Told news (.ref a) wd :=
  ⟨a, vs, k, rfl, hm, h.1, fun i hi => (h.2 i hi).mono hs⟩
section
variable {prog : Program} {w : World} {A : Around} {h₀ : Heap} {L : Addr} {m : Str → Option Value} {env : Env} {elt : PySem.Expr} {x : Str} {scope : Scope} {cl : List (Str × Addr)} {s : Shared} {Fin : List Value → List (Addr × Obj) → Prop} {news : List (Addr × Obj)}
theorem told_rest {cc : Addr} {o : Obj} {wd : Int} {t9 : Tok} (hd : o.data = .cell (some (.int wd t9))) (hcell : (cc, o) ∈ news)
    (turn : ∀ (i : Nat) t I oI C oC D m₂ ys nw h tk (E' : Value → Shared → Prop), i < 11 → LCg.NsObj oC m₂ → m₂ x = some (.int (0 + (i : Int)) t) → Fr h₀ L h m → News h₀ L h ((I, oI) :: (C, oC) :: (D, LCg.lst ys) :: (cc, o) :: nw) → LCg.Off3 I C D nw → ((@Ne Nat I C) ∧ (@Ne Nat I D) ∧ (@Ne Nat C D)) → (∀ q ∈ news, q ∈ nw) →
      wpAny (model prog w) A (eval elt (compEnvC scope cl C env)) (LCg.CompEnd h₀ L m { s with heap := h, toks := tk } I oI C oC D (LCg.lst ys) (fun _ => True) (fun y nw' => TdYes news nw wd (fibZ i) y nw')) E' { s with heap := h, toks := tk })
    (fin : ∀ ys nw tl, (∀ q ∈ news, q ∈ nw) → (∀ q ∈ tl, q ∈ nw) → AllLst news tl → ToldAre tl ys wd → Fin ys nw) :
    LCg.CompRest prog w A h₀ L m env elt x scope cl s (fun _ => True) (fun i v => ∃ t, v = .int (0 + (i : Int)) t) Fin 11 0 [] news := by
  have key : ∀ (j i : Nat) (ys : List Value) (nw tl : List (Addr × Obj)), i + j = 11 → (∀ q ∈ news, q ∈ nw) → (∀ q ∈ tl, q ∈ nw) → AllLst news tl → ys.length = i → (∀ k, k < i → LD tl (ys.getD k .none) wd (fibZ k)) →
      LCg.CompRest prog w A h₀ L m env elt x scope cl s (fun _ => True) (fun i v => ∃ t, v = .int (0 + (i : Int)) t) Fin j i ys nw := by
    intro j
    induction j with
    | zero =>
      intro i ys nw tl hi h1 h2 h3 h4 h5
      have e : i = 11 := by omega
      subst e
      exact LCg.CompRest.zero (fin ys nw tl h1 h2 h3 ⟨h4, h5⟩)
    | succ j ih =>
      intro i ys nw tl hi h1 h2 h3 h4 h5
      refine LCg.CompRest.succ ?_
      intro v I oI C oC D m₂ h tk E' hv hC hx F N off ne
      obtain ⟨t, rfl⟩ := hv
      have N2 : News h₀ L h ((I, oI) :: (C, oC) :: (D, LCg.lst ys) :: (cc, o) :: nw) := by
        intro p hp
        simp only [List.mem_cons] at hp
        rcases hp with e | e | e | e | e
        · exact N p (by rw [e]; exact .head _)
        · exact N p (by rw [e]; exact .tail _ (.head _))
        · exact N p (by rw [e]; exact .tail _ (.tail _ (.head _)))
        · exact N p (by rw [e]; exact .tail _ (.tail _ (.tail _ (h1 _ hcell))))
        · exact N p (.tail _ (.tail _ (.tail _ e)))
      refine wpAny_mono (turn i t I oI C oC D m₂ ys nw h tk E' (by omega) hC hx F N2 off ne h1) (fun y s₃ hr => ?_) fun _ _ e => e
      obtain ⟨h', tk', nw', e, F', N', off', hS, hsub, a9, us9, k9, xs9, hy, hm9, hi9, hg9, hlo9⟩ := hr
      refine ⟨h', tk', nw', e, F', N', off', hS, ?_⟩
      refine ih (i + 1) _ nw' ((a9, listOf us9.toArray k9) :: tl) (by omega) (fun q hq => hsub q (h1 q hq)) (fun q hq => (List.mem_cons.mp hq).elim (fun e => e ▸ hm9) (fun e => hsub q (h2 q e))) (fun q hq => ?_) (by simp [h4]) (fun k hk => ?_)
      · rcases List.mem_cons.mp hq with e | e
        · rw [e]; exact ⟨⟨(by decide : Value.type "list" ≠ Value.type "range_iterator"), fun v h => nomatch h⟩, hlo9⟩
        · exact h3 q e
      · rcases Nat.lt_or_ge k i with hlt | hge
        · have e2 : (ys ++ [y]).getD k .none = ys.getD k .none := by
            have : k < ys.length := by omega
            simp [List.getD_eq_getElem?_getD, List.getElem?_append_left this]
          rw [e2]
          exact (h5 k hlt).mono (fun q hq => List.mem_cons_of_mem _ hq)
        · have e1 : k = i := by omega
          have e2 : (ys ++ [y]).getD k .none = y := by
            rw [e1, ← h4]
            simp [List.getD_eq_getElem?_getD]
          rw [e2, e1]
          exact ⟨a9, us9, k9, xs9, hy, .head _, hi9, hg9⟩
  exact key 11 0 [] news [] (by omega) (fun _ h => h) (fun _ h => nomatch h) (fun _ h => nomatch h) rfl (fun k hk => absurd hk (Nat.not_lt_zero _))
theorem worth_rest {rs : List Value} {tl : List (Addr × Obj)} {ax cc : Addr} {o : Obj} {wd : Int} {t9 : Tok} (hd : o.data = .cell (some (.int wd t9))) (ht : ToldAre tl rs wd) (htl : ∀ q ∈ tl, q ∈ news) (hcell : (cc, o) ∈ news)
    (turn : ∀ (i : Nat) (a : Addr) us k xs I oI C oC D m₂ ys h tk (E' : Value → Shared → Prop), i < 11 → IntsAre us xs → Dg (2 ^ wd.toNat) xs (fibZ i) → LCg.NsObj oC m₂ → m₂ x = some (.ref a) → Fr h₀ L h m → News h₀ L h ((I, oI) :: (C, oC) :: (D, LCg.lst ys) :: (a, listOf us.toArray k) :: (cc, o) :: news) → LCg.Off3 I C D news → ((@Ne Nat I C) ∧ (@Ne Nat I D) ∧ (@Ne Nat C D)) →
      wpAny (model prog w) A (eval elt (compEnvC scope cl C env)) (LCg.CompEnd h₀ L m { s with heap := h, toks := tk } I oI C oC D (LCg.lst ys) (LCg.SrcAt h₀ ax rs.toArray) (fun y nw' => KCfEl news (fibZ i) y nw')) E' { s with heap := h, toks := tk })
    (fin : ∀ ys, IntsAre ys ((List.range 11).map fun i => fibZ i) → Fin ys news) :
    LCg.CompRest prog w A h₀ L m env elt x scope cl s (LCg.SrcAt h₀ ax rs.toArray) (fun i v => rs.toArray[i]? = some v) Fin rs.toArray.size 0 [] news := by
  have hn : rs.toArray.size = 11 := by rw [List.size_toArray, ht.1]
  rw [hn]
  have key : ∀ (j i : Nat) (ys : List Value), i + j = 11 → IntsAre ys ((List.range i).map fun i => fibZ i) → LCg.CompRest prog w A h₀ L m env elt x scope cl s (LCg.SrcAt h₀ ax rs.toArray) (fun i v => rs.toArray[i]? = some v) Fin j i ys news := by
    intro j
    induction j with
    | zero =>
      intro i ys hi hy
      have e : i = 11 := by omega
      subst e
      exact LCg.CompRest.zero (fin ys hy)
    | succ j ih =>
      intro i ys hi hy
      refine LCg.CompRest.succ ?_
      intro v I oI C oC D m₂ h tk E' hv hC hx F N off ne
      obtain ⟨a, us, k, xs, ev, hma, hia, hga⟩ := ht.2 i (by omega)
      have hv' : v = .ref a := by
        rw [← ev]
        have : rs[i]? = some v := by simpa using hv
        simp [List.getD_eq_getElem?_getD, this]
      rw [hv'] at hx
      have N2 : News h₀ L h ((I, oI) :: (C, oC) :: (D, LCg.lst ys) :: (a, listOf us.toArray k) :: (cc, o) :: news) := by
        intro p hp
        simp only [List.mem_cons] at hp
        rcases hp with e | e | e | e | e | e
        · exact N p (by rw [e]; exact .head _)
        · exact N p (by rw [e]; exact .tail _ (.head _))
        · exact N p (by rw [e]; exact .tail _ (.tail _ (.head _)))
        · exact N p (by rw [e]; exact .tail _ (.tail _ (.tail _ (htl _ hma))))
        · exact N p (by rw [e]; exact .tail _ (.tail _ (.tail _ hcell)))
        · exact N p (.tail _ (.tail _ (.tail _ e)))
      refine wpAny_mono (turn i a us k xs I oI C oC D m₂ ys h tk E' (by omega) hia hga hC hx F N2 off ne) (fun y s₂ hq => ?_) fun _ _ e => e
      obtain ⟨h', tk', nw, e, F', N', off', hS, hnn, t', hy'⟩ := hq
      rw [hnn] at N' off' hS
      refine ⟨h', tk', news, e, F', N', off', hS, ?_⟩
      rw [hy']
      refine ih (i + 1) _ (by omega) ?_
      rw [List.range_succ, List.map_append]
      exact IntsAre.append hy (.cons (fibZ i) t' .nil)
  exact key 11 0 [] (by omega) (by simp only [List.range_zero, List.map_nil]; exact .nil)
end
section
variable {M : Model} {A : Around} {E : Value → Shared → Prop} {s : Shared} {h₀ : Heap} {L : Addr} {m : Str → Option Value} {news : List (Addr × Obj)} {env : Env} {x : Str} {v : Value}
theorem store_cell_any {c : Addr} {o : Obj} {v₀ : Option Value} {Q : Unit → Shared → Prop} (rest : List (Addr × Obj)) (F : Fr h₀ L s.heap m) (N : News h₀ L s.heap news) (hk : env.scope.kind = .function) (hx : env.kindOf x = some .cell) (hc : env.cells.lookup x = some c) (hm : (c, o) ∈ news) (hd : o.data = .cell v₀)
    (hr : ∀ p ∈ rest, p ∈ news ∧ ((∀ v, p.2.data ≠ .cell v) ∨ @Ne Nat p.1 c))
    (h : ∀ h' o', Fr h₀ L h' m → News h₀ L h' ((c, o') :: rest) → o'.data = .cell (some v) → Q () { s with heap := h' }) : wpAny M A (storeName env x v) Q E s := by
  have hmem := N (c, o) hm
  refine wpAny_storeName_cell hk hx hc ⟨o, hmem.1, hd⟩ fun h' hv hs => ?_
  obtain ⟨o', ho', hd'⟩ := hv
  refine h h' o' ⟨F.ns.sameBut hs (Ne.symm hmem.2.1), fun b ob e => (hs.2 b (fun q => by rw [q, hmem.2.2] at e; cases e)).trans (F.keep b ob e), F.above⟩ (fun p hp => ?_) hd'
  rcases List.mem_cons.mp hp with e | hp
  · rw [e]; exact ⟨ho', hmem.2⟩
  obtain ⟨hpn, hpc⟩ := hr p hp
  have hN := N p hpn
  refine ⟨(hs.2 _ ?_).trans hN.1, hN.2⟩
  intro e
  rcases hpc with hpc | hpc
  · have g := hN.1
    rw [e, hmem.1] at g
    exact hpc v₀ (by rw [← Option.some.inj g]; exact hd)
  · exact hpc e
end
theorem td_end {h₀ h' : Heap} {L I C D D9 : Addr} {m : Str → Option Value} {s₁ : Shared} {oI oC oD : Obj} {tk : Nat} {led9 nw lo : List (Addr × Obj)} {us9 : List Value} {k9 : Nat} {xs9 : List Int} {wd n : Int}
    (F : Fr h₀ L h' m) (N : News h₀ L h' led9) (m0 : (D9, listOf us9.toArray k9) ∈ led9) (hi : IntsAre us9 xs9) (hg : Dg (2 ^ wd.toNat) xs9 n) (hI : (I, oI) ∈ led9) (hC : (C, oC) ∈ led9) (hD : (D, oD) ∈ led9) (hnw : ∀ q ∈ nw, q ∈ led9) (off : LCg.Off3 I C D nw) (n1 : @LT.lt Nat _ I D9) (n2 : @LT.lt Nat _ C D9) (n3 : @LT.lt Nat _ D D9) (hlt : AllLt D9 nw) (hlo : ∀ q ∈ lo, q ∈ nw) :
    LCg.CompEnd h₀ L m s₁ I oI C oC D oD (fun _ => True) (fun y nw' => TdYes lo nw wd n y nw') (.ref D9) { s₁ with heap := h', toks := tk } :=
  LCg.CompEnd.intro F N ((D9, listOf us9.toArray k9) :: nw) (by
    intro p hp
    simp only [List.mem_cons] at hp
    rcases hp with e | e | e | e | e
    · rw [e]; exact hI
    · rw [e]; exact hC
    · rw [e]; exact hD
    · rw [e]; exact m0
    · exact hnw p e) ⟨⟨Nat.ne_of_gt n1, Nat.ne_of_gt n2, Nat.ne_of_gt n3⟩, off⟩ trivial ⟨fun q hq => List.mem_cons_of_mem _ hq, D9, us9, k9, xs9, rfl, .head _, hi, hg, allLt_of fun q hq => kst_ltOf hlt q (hlo q hq)⟩
theorem told_news {h₀ h : Heap} {L : Addr} {p0 p1 p2 p3 p4 p5 p6 : Addr × Obj} {nw tl : List (Addr × Obj)} (N : News h₀ L h (p0 :: nw)) (hsub : ∀ q ∈ [p1, p2, p3, p4, p5, p6], q ∈ nw) (htl : ∀ q ∈ tl, q ∈ nw) : News h₀ L h (p0 :: p2 :: p3 :: p5 :: p6 :: tl) := by
  intro p hp
  rcases List.mem_cons.mp hp with e | hp
  · exact N p (by rw [e]; exact .head _)
  refine N p (.tail _ ?_)
  simp only [List.mem_cons] at hp
  rcases hp with e | e | e | e | e
  · exact hsub p (by rw [e]; simp)
  · exact hsub p (by rw [e]; simp)
  · exact hsub p (by rw [e]; simp)
  · exact hsub p (by rw [e]; simp)
  · exact htl p e
theorem fibs_eq : ((List.range 11).map fun i => fibZ i) = [0, 1, 1, 2, 3, 5, 8, 13, 21, 34, 55] := by decide +kernel

/-- the gap test of the law at place k -/
noncomputable def gapG (xs : List Int) (l : List Int) (k : Int) : List Int := if xs.getD k.toNat 0 - xs.getD (k - 1).toNat 0 < 2 then l ++ [k] else l
theorem gapG_grows (xs : List Int) : KPfGrows (gapG xs) := by
  intro l k
  unfold gapG
  split <;> simp
theorem gap_none0 : ∀ n : Fin 47, (rangeKs 1 (((greedyL (n.1 : Int)).length : Int) - 1).toNat).foldl (gapG (greedyL (n.1 : Int))) [] = [] := by decide +kernel
theorem gap_none {n : Int} (h0 : 0 ≤ n) (h1 : n < 47) : (rangeKs 1 (((greedyL n).length : Int) - 1).toNat).foldl (gapG (greedyL n)) [] = [] := by
  have h := gap_none0 ⟨n.toNat, by omega⟩
  have e1 : ((n.toNat : Nat) : Int) = n := by omega
  simp only [e1] at h
  exact h
theorem gr_small0 : ∀ n : Fin 47, (greedyL (n.1 : Int)).length < 10 ∧ ∀ x ∈ greedyL (n.1 : Int), x ≤ 20 := by decide +kernel
theorem gr_small {n : Int} (h0 : 0 ≤ n) (h1 : n < 47) : (greedyL n).length < 10 ∧ ∀ x ∈ greedyL n, x ≤ 20 := by
  have h := gr_small0 ⟨n.toNat, by omega⟩
  have e1 : ((n.toNat : Nat) : Int) = n := by omega
  simp only [e1] at h
  exact h
theorem gr_next0 : ∀ n : Fin 46, (greedyL ((n.1 : Int) + 1)).isPerm ((omAll (greedyL (n.1 : Int))).2 ++ [(omAll (greedyL (n.1 : Int))).1]) = true ∧ (greedyL ((n.1 : Int) + 1)).Pairwise (· ≤ ·) := by decide +kernel
theorem gr_next {n : Int} (h0 : 0 ≤ n) (h1 : n < 46) {ys : List Int} (hp : ys.Perm ((omAll (greedyL n)).2 ++ [(omAll (greedyL n)).1])) (hw : ys.Pairwise (· ≤ ·)) : ys = greedyL (n + 1) := by
  have h := gr_next0 ⟨n.toNat, by omega⟩
  have e1 : ((n.toNat : Nat) : Int) = n := by omega
  simp only [e1] at h
  exact ksm_same (hp.trans (List.isPerm_iff.mp h.1).symm) hw h.2
section
variable {M : Model} {A : Around} {E : Value → Shared → Prop} {s : Shared} {h₀ : Heap} {L : Addr} {m : Str → Option Value} {env : Env} {x : Str} {v : Value}
theorem store_first {c c1 : Addr} {o oW : Obj} {v₀ : Option Value} {q1 q2 q3 q4 q5 q6 : Addr × Obj} {tl : List (Addr × Obj)} {Q : Unit → Shared → Prop} (F : Fr h₀ L s.heap m) (N : News h₀ L s.heap (q1 :: q2 :: q3 :: q4 :: q5 :: q6 :: (c, o) :: (c1, oW) :: tl)) (hk : env.scope.kind = .function) (hx : env.kindOf x = some .cell) (hc : env.cells.lookup x = some c) (hd : o.data = .cell v₀)
    (n1 : ∀ v, q1.2.data ≠ .cell v) (n4 : ∀ v, q4.2.data ≠ .cell v) (n5 : ∀ v, q5.2.data ≠ .cell v) (n6 : ∀ v, q6.2.data ≠ .cell v) (n8 : @Ne Nat c1 c) (hal : AllLst [] tl)
    (h : ∀ h' o', Fr h₀ L h' m → News h₀ L h' ((c, o') :: q1 :: q4 :: q5 :: q6 :: (c1, oW) :: tl) → o'.data = .cell (some v) → Q () { s with heap := h' }) : wpAny M A (storeName env x v) Q E s :=
  store_cell_any (q1 :: q4 :: q5 :: q6 :: (c1, oW) :: tl) F N hk hx hc (by simp) hd (by
    intro p hp
    simp only [List.mem_cons] at hp
    rcases hp with e | e | e | e | e | e
    · rw [e]; exact ⟨by simp, .inl n1⟩
    · rw [e]; exact ⟨by simp, .inl n4⟩
    · rw [e]; exact ⟨by simp, .inl n5⟩
    · rw [e]; exact ⟨by simp, .inl n6⟩
    · rw [e]; exact ⟨by simp, .inr n8⟩
    · exact ⟨by simp [e], .inl (hal p e).1.2⟩) h
theorem hu_first {h₀ h : Heap} {L : Addr} {c q1 q4 hu st cW : Addr × Obj} {tl : List (Addr × Obj)} (N : News h₀ L h (c :: q1 :: q4 :: hu :: st :: cW :: tl)) : News h₀ L h (hu :: c :: q1 :: q4 :: st :: cW :: tl) := by
  intro p hp
  refine N p ?_
  simp only [List.mem_cons] at hp ⊢
  rcases hp with e | e | e | e | e | e | e <;> simp [e]
theorem hu_back {h₀ h : Heap} {L : Addr} {c q1 q4 hu st cW : Addr × Obj} {tl : List (Addr × Obj)} (N : News h₀ L h (hu :: c :: q1 :: q4 :: st :: cW :: tl)) : News h₀ L h (c :: q1 :: q4 :: hu :: st :: cW :: tl) := by
  intro p hp
  refine N p ?_
  simp only [List.mem_cons] at hp ⊢
  rcases hp with e | e | e | e | e | e | e <;> simp [e]
end
/-- the turn loop's state: the places' list, and their cell -/
structure TuS where
  a : Addr
  us : List Value
  k : Nat
  o : Obj
noncomputable abbrev tuDyn (cP : Addr) (c : TuS) : List (Addr × Obj) := [(cP, c.o), (c.a, listOf c.us.toArray c.k)]
noncomputable def TuInv (n : Int) (hu : Nat) (i : Nat) (c : TuS) : Prop := c.o.data = .cell (some (.ref c.a)) ∧ IntsAre c.us (greedyL (n + (i : Int))) ∧ @LT.lt Nat _ hu c.a
theorem tu_dyn {cP : Addr} {n : Int} {hu : Nat} {i : Nat} {c : TuS} (h : TuInv n hu i c) : ∀ p ∈ tuDyn cP c, ¬ (p.2.cls = .type "range_iterator" ∧ ∃ fs, p.2.data = .fields fs) := by
  intro p hp
  rcases List.mem_cons.mp hp with e | hp
  · rw [e]; rintro ⟨_, fs, h2⟩; exact absurd (h.1.symm.trans h2) (fun q => nomatch q)
  · rw [List.mem_singleton.mp hp]; rintro ⟨_, fs, h2⟩; exact nomatch h2
theorem off_of {lo tl : List (Addr × Obj)} {a : Addr} {o : Obj} (h : AllLst lo tl) (hm : (a, o) ∈ lo) : OwnOff tl [a] := by
  intro p hp b hb
  rw [List.mem_singleton.mp hb]
  exact Nat.ne_of_gt (kst_ltOf (h p hp).2 _ hm)
theorem AllLst.nil {lo tl : List (Addr × Obj)} (h : AllLst lo tl) : AllLst [] tl := fun q hq => ⟨(h q hq).1, trivial⟩
theorem off1_mem {D : Addr} : ∀ {l : List (Addr × Obj)}, LCg.Off1 D l → ∀ {a : Addr} {o : Obj}, (a, o) ∈ l → @Ne Nat a D
  | [], _, _, _, h => nomatch h
  | _ :: _, x, _, _, h => by
    rcases List.mem_cons.mp h with e | h
    · rw [← e] at x; exact x.1
    · exact off1_mem x.2 h
section
variable {h₀ h' : Heap} {L I C D : Addr} {m : Str → Option Value} {s₁ : Shared} {oI oC oD : Obj} {tk : Nat} {led9 nw : List (Addr × Obj)} {xs l : List Int} {k : Int} {t : Tok} {y : Value}
theorem gp_yes (F : Fr h₀ L h' m) (N : News h₀ L h' led9) (hI : (I, oI) ∈ led9) (hC : (C, oC) ∈ led9) (hD : (D, oD) ∈ led9) (hnw : ∀ q ∈ nw, q ∈ led9) (off : LCg.Off3 I C D nw) (hc : xs.getD k.toNat 0 - xs.getD (k - 1).toNat 0 < 2) :
    LCg.CompEnd h₀ L m s₁ I oI C oC D oD (fun _ => True) (fun y nw' => KCiEl nw l (gapG xs l k) y nw') (.int k t) { s₁ with heap := h', toks := tk } :=
  LCg.CompEnd.intro F N nw (by
    intro p hp
    simp only [List.mem_cons] at hp
    rcases hp with e | e | e | e
    · rw [e]; exact hI
    · rw [e]; exact hC
    · rw [e]; exact hD
    · exact hnw p e) off trivial ⟨rfl, k, t, rfl, if_pos hc⟩
theorem gp_no (F : Fr h₀ L h' m) (N : News h₀ L h' led9) (hI : (I, oI) ∈ led9) (hC : (C, oC) ∈ led9) (hD : (D, oD) ∈ led9) (hnw : ∀ q ∈ nw, q ∈ led9) (off : LCg.Off3 I C D nw) (hc : ¬ xs.getD k.toNat 0 - xs.getD (k - 1).toNat 0 < 2) :
    LCg.CompEnd h₀ L m s₁ I oI C oC D oD (fun _ => True) (fun _ nw' => KCiNo nw l (gapG xs l k) nw') y { s₁ with heap := h', toks := tk } :=
  LCg.CompEnd.intro F N nw (by
    intro p hp
    simp only [List.mem_cons] at hp
    rcases hp with e | e | e | e
    · rw [e]; exact hI
    · rw [e]; exact hC
    · rw [e]; exact hD
    · exact hnw p e) off trivial ⟨rfl, if_neg hc⟩
end
section
variable {M : Model} {A : Around} {E : Value → Shared → Prop} {s : Shared} {h₀ : Heap} {L : Addr} {m : Str → Option Value} {env : Env} {x : Str} {v : Value}
theorem store_turn {c c1 : Addr} {o oW : Obj} {v₀ : Option Value} {q g1 g2 g3 g4 q3 q4 q5 : Addr × Obj} {tl own : List (Addr × Obj)} {Q : Unit → Shared → Prop} (F : Fr h₀ L s.heap m) (N : News h₀ L s.heap (q :: g1 :: g2 :: g3 :: (c, o) :: g4 :: q3 :: q4 :: q5 :: (c1, oW) :: (tl ++ own))) (hk : env.scope.kind = .function) (hx : env.kindOf x = some .cell) (hc : env.cells.lookup x = some c) (hd : o.data = .cell v₀)
    (n1 : ∀ v, q.2.data ≠ .cell v) (n3 : ∀ v, q3.2.data ≠ .cell v) (n4 : ∀ v, q4.2.data ≠ .cell v) (n5 : ∀ v, q5.2.data ≠ .cell v) (n8 : @Ne Nat c1 c) (hal : AllLst [] tl) (hoc : ∀ p ∈ own, ∀ v, p.2.data ≠ .cell v)
    (h : ∀ h' o', Fr h₀ L h' m → News h₀ L h' ((c, o') :: q :: q3 :: q4 :: q5 :: (c1, oW) :: (tl ++ own)) → o'.data = .cell (some v) → Q () { s with heap := h' }) : wpAny M A (storeName env x v) Q E s :=
  store_cell_any (q :: q3 :: q4 :: q5 :: (c1, oW) :: (tl ++ own)) F N hk hx hc (by simp) hd (by
    intro p hp
    simp only [List.mem_cons, List.mem_append] at hp
    rcases hp with e | e | e | e | e | e | e
    · rw [e]; exact ⟨by simp, .inl n1⟩
    · rw [e]; exact ⟨by simp, .inl n3⟩
    · rw [e]; exact ⟨by simp, .inl n4⟩
    · rw [e]; exact ⟨by simp, .inl n5⟩
    · rw [e]; exact ⟨by simp, .inr n8⟩
    · exact ⟨by simp [e], .inl (hal p e).1.2⟩
    · exact ⟨by simp [e], .inl (hoc p e)⟩) h
end
theorem tu_end {h₀ h' : Heap} {L : Addr} {s : Shared} {x : Str} {m₀ m' : Str → Option Value} {tk : Nat} {own tl : List (Addr × Obj)} {n : Int} {hu i : Nat} {cP a : Addr} {oP : Obj} {us : List Value} {k : Nat} {ys : List Int} {q3 q4 q5 q6 : Addr × Obj}
    (F : Fr h₀ L h' m') (N : News h₀ L h' ((cP, oP) :: (a, listOf us.toArray k) :: q3 :: q4 :: q5 :: q6 :: (tl ++ own))) (hd : oP.data = .cell (some (.ref a))) (hi : IntsAre us ys) (e : ys = greedyL (n + (i : Int) + 1)) (hlt : @LT.lt Nat _ hu a) (hr : ∀ z, z ≠ x → m' z = m₀ z) :
    TurnE h₀ L (fun c => tuDyn cP c ++ (q3 :: q4 :: q5 :: q6 :: tl)) (fun _ => []) x [] m₀ (TuInv n hu (i + 1)) own s { s with heap := h', toks := tk } :=
  turn_end ⟨a, us, k, oP⟩ F N (by
    intro q hq
    simp only [tuDyn, List.cons_append, List.nil_append, List.mem_cons, List.mem_append] at hq ⊢
    rcases hq with e | e | e | e | e | e | e <;> simp [e]) (by
    intro q hq
    simp only [List.mem_cons, List.mem_append]
    simp [hq]) (fun p hp => nomatch hp) (fun z h1 _ _ => hr z h1) ⟨hd, by
      have e2 : n + (((i + 1 : Nat)) : Int) = n + (i : Int) + 1 := by omega
      rw [e2, ← e]; exact hi, hlt⟩
/-- the last part: lots of places -/
noncomputable def sumF (l : List Int) : Int := (l.map fun p => fibZ p.toNat).sum
theorem sumF_next {ns : List Int} {i : Nat} {n : Int} (h : ns[i]? = some n) : sumF (ns.take (i + 1)) = sumF (ns.take i) + fibZ n.toNat := by
  rw [List.take_add_one, h]
  simp [sumF]
noncomputable def lotOk (o : Option (List Int)) (i : Nat) : Bool := match o with
  | none => true
  | some xs => decide (sumF xs = (i : Int)) && xs.all (fun p => decide (0 ≤ p) && decide (p < 11)) && (List.range 7).all (fun j => decide (0 ≤ sumF (xs.take j)) && decide (sumF (xs.take j) ≤ 50)) && decide (xs.length ≤ 6)
theorem lot_facts0 : ∀ k : Fin 6, ∀ i : Fin 13, lotOk (lotsL k.1)[i.1]? i.1 = true := by decide +kernel
theorem lot_facts {k i : Nat} {xs : List Int} (hk : k < 6) (h : (lotsL k)[i]? = some xs) : sumF xs = (i : Int) ∧ (∀ p ∈ xs, 0 ≤ p ∧ p < 11) ∧ (∀ j, 0 ≤ sumF (xs.take j) ∧ sumF (xs.take j) ≤ 50) ∧ xs.length ≤ 6 ∧ i < 13 := by
  have hi : i < (lotsL k).length := (List.getElem?_eq_some_iff.mp h).1
  have hi13 : i < 13 := Nat.lt_of_lt_of_le hi (lots_small ⟨k, hk⟩).1
  have h2 := lot_facts0 ⟨k, hk⟩ ⟨i, hi13⟩
  dsimp only at h2
  rw [h] at h2
  simp only [lotOk, Bool.and_eq_true, decide_eq_true_eq, List.all_eq_true, List.mem_range] at h2
  obtain ⟨⟨⟨h3, h4⟩, h5⟩, h6⟩ := h2
  refine ⟨h3, h4, fun j => ?_, h6, hi13⟩
  rcases Nat.lt_or_ge j 7 with hj | hj
  · exact h5 j hj
  · have e : xs.take j = xs.take 6 := by
      rw [List.take_of_length_le (by omega), List.take_of_length_le h6]
    rw [e]
    exact h5 6 (by omega)
theorem lots_len0 : ∀ k : Fin 5, (((lotsL (k.1 + 1)).length : Nat) : Int) = fibZ (k.1 + 3) := by decide +kernel
theorem lots_len {r : Int} (h0 : 0 ≤ r) (h1 : r < 5) : (((lotsL (3 + r - 2).toNat).length : Nat) : Int) = fibZ (3 + r).toNat := by
  have h := lots_len0 ⟨r.toNat, by omega⟩
  have e1 : (3 + r - 2).toNat = r.toNat + 1 := by omega
  have e2 : (3 + r).toNat = r.toNat + 3 := by omega
  rw [e1, e2]; exact h
theorem lots_news {h₀ h : Heap} {L : Addr} {p q1 q2 q3 q4 q5 q6 : Addr × Obj} {led tl : List (Addr × Obj)} (N : News h₀ L h (p :: (led ++ (q1 :: q2 :: q3 :: q4 :: q5 :: q6 :: tl)))) : News h₀ L h (p :: q3 :: q6 :: (tl ++ led)) := by
  intro r hr
  refine N r ?_
  simp only [List.mem_cons, List.mem_append] at hr ⊢
  rcases hr with e | e | e | e | e <;> simp [e]
theorem news_swap {h₀ h : Heap} {L : Addr} {p q : Addr × Obj} {r : List (Addr × Obj)} (N : News h₀ L h (p :: q :: r)) : News h₀ L h (q :: p :: r) := by
  intro x hx
  refine N x ?_
  simp only [List.mem_cons] at hx ⊢
  rcases hx with e | e | e <;> simp [e]
section
variable {prog : Program} {w : World} {A : Around} {E : Value → Shared → Prop} {s : Shared} {h₀ : Heap} {L D : Addr} {news : List (Addr × Obj)} {vs : List Value} {n : Nat} {i : Nat} {u : Tok}
theorem sub_lot {value slice : PySem.Expr} {Q : Value → Shared → Prop} {ls : List (List Int)} {led : List (Addr × Obj)} (N : News h₀ L s.heap news) (hf : ∀ (i : Nat) (v : Value), vs[i]? = some v → ∃ a us k xs, v = .ref a ∧ ls[i]? = some xs ∧ (a, listOf us.toArray k) ∈ led ∧ IntsAre us xs) (hlen : vs.length = ls.length) (hb : ∀ p ∈ led, p ∈ news) (hm : (D, listOf vs.toArray n) ∈ news) (h1 : i < ls.length) (hfit : i < 1000)
    (h : ∀ a us kk xs, News h₀ L s.heap ((a, listOf us.toArray kk) :: news) → IntsAre us xs → ls[i]? = some xs → Q (.ref a) s)
    (hs : subscripted slice false (.ref D) (.int (i : Int) u) = operate [.ref D, .int (i : Int) u] (getItem (.ref D) (.int (i : Int) u)) := by with_unfolding_all rfl) :
    wpAny (model prog w) A (subscriptTail value slice (.ref D) (.int (i : Int) u)) Q E s := by
  refine sub_any N hm (by omega) (by omega) (by omega) ?_ hs
  have hx : vs[i]? = some (vs.getD ((i : Int)).toNat .none) := by
    have e : ((i : Int)).toNat = i := by omega
    rw [e]
    have : i < vs.length := by omega
    simp [List.getD_eq_getElem?_getD, this]
  obtain ⟨a, us, kk, xs, e, hls, hm', hi⟩ := hf i _ hx
  rw [e]
  exact h a us kk xs (news_at N (hb _ hm')) hi hls
end
structure WhS where
  a : Addr
  us : List Value
  k : Nat
  xs : List Int
noncomputable abbrev whDyn (c : WhS) : List (Addr × Obj) := [(c.a, listOf c.us.toArray c.k)]
noncomputable abbrev whPs (c : WhS) : List (Str × Value) := [(Str.ofString "whole", .ref c.a)]
noncomputable def WhInv (w : Int) (ns : List Int) (i : Nat) (c : WhS) : Prop := IntsAre c.us c.xs ∧ Dg (2 ^ w.toNat) c.xs (sumF (ns.take i))
theorem wh_dyn (c : WhS) : ∀ p ∈ whDyn c, p.2.cls ≠ .type "list_iterator" := by
  intro p hp
  rw [List.mem_singleton.mp hp]; exact (by decide : Value.type "list" ≠ Value.type "list_iterator")
theorem wh_end {h₀ h' : Heap} {L : Addr} {s : Shared} {x : Str} {stored : List Str} {m₀ m' : Str → Option Value} {tk : Nat} {base own news' : List (Addr × Obj)} {w : Int} {ns : List Int} {i : Nat} {a : Addr} {us : List Value} {k : Nat} {xs : List Int} {n : Int}
    (F : Fr h₀ L h' m') (N : News h₀ L h' news') (h1 : m' (Str.ofString "whole") = some (.ref a)) (m1 : (a, listOf us.toArray k) ∈ news') (hs : ∀ q ∈ base, q ∈ news') (ho : ∀ q ∈ own, q ∈ news') (i1 : IntsAre us xs) (hn : ns[i]? = some n) (d1 : Dg (2 ^ w.toNat) xs (sumF (ns.take i) + fibZ n.toNat)) (hr : ∀ z, z ≠ x → z ≠ Str.ofString "whole" → m' z = m₀ z) :
    TurnE h₀ L (fun c => whDyn c ++ base) whPs x stored m₀ (WhInv w ns (i + 1)) own s { s with heap := h', toks := tk } :=
  turn_end ⟨a, us, k, xs⟩ F N (by
    intro q hq
    rcases List.mem_cons.mp hq with e | hq
    · rw [e]; exact m1
    · exact hs q hq) ho (by
    intro q hq
    rw [List.mem_singleton.mp hq]; exact h1) (fun z hx hz _ => hr z hx (hz _ (.head _))) ⟨i1, by rw [sumF_next hn]; exact d1⟩
theorem two_off {a b z : Str} (h : [a, b].contains z = false) : z ≠ a ∧ z ≠ b := by
  constructor <;> (rintro rfl; simp at h)
theorem out_end {h₀ h' : Heap} {L : Addr} {s : Shared} {x a b : Str} {m₀ m' : Str → Option Value} {tk : Nat} {base own news' : List (Addr × Obj)}
    (F : Fr h₀ L h' m') (N : News h₀ L h' news') (hs : ∀ q ∈ base, q ∈ news') (ho : ∀ q ∈ own, q ∈ news') (hr : ∀ z, z ≠ x → z ≠ a → z ≠ b → m' z = m₀ z) :
    TurnE (σ := Unit) h₀ L (fun _ => [] ++ base) (fun _ => []) x [a, b] m₀ (fun _ => True) own s { s with heap := h', toks := tk } :=
  turn_end () F N hs ho (fun p hp => nomatch hp) (fun z h1 _ h3 => hr z h1 (two_off h3).1 (two_off h3).2) trivial
end
/- part bred -/
section
/-- the draw keeps its word: what came back, and the hutch one further -/
noncomputable def BredKeeps : Prop :=
  ∀ (w : World) (mean : ExcName → Option Value) (mg mb : Str → Option Value)
    (dp un : Nat) (gd : Option (List Code)) (cn : Str) (cs : Scope) (a : Addr) (ccd : Value) (cl : List (Str × Addr)) (outer : List Env) (A₀ : Around) (base h₀ : Heap) (L : Addr) (m : Str → Option Value) (s : Shared)
    (Q E : Value → Shared → Prop) (hu st : Addr) (k many : Int) (t0 tm : Tok) (c0 cst : Nat) (ys : List Value) (zs : List Int) (rest : List (Addr × Obj)),
    Below A₀ base outer h₀ → Fr h₀ L s.heap m → (hd.heap_39 w.params).In h₀ → News h₀ L s.heap ((hu, listOf #[.int k t0, .ref st] c0) :: (st, listOf ys.toArray cst) :: rest) → Top hd.view_39 (looseW hd.view_39 []) mean mg mb h₀ → cs.kind = .function →
    IntsAre ys zs → zs.length ≤ 63 → 0 ≤ k → k < 10 → 0 < many → many < 100 → @Ne Nat hu st → OwnOff rest [hu] → dp + 5 < recursionLimit → un + 8 * 5 < cLine →
    (∀ v s', BredOut h₀ L m hu st k many ((st, listOf ys.toArray cst) :: rest) s v s' → Q v s') →
    wpAny (model PySem.Challenge.rw_xm0396_01.row.prog w) (ktrTop dp un gd cn cs L a ccd cl outer) (call (.ref 116) [.ref hu, .int many tm]) Q E s
theorem bred_ok : BredKeeps := by
  w_top off
  unfold BredKeeps
  k_fill
  intro w mean mg mb dp un gd cn cs a ccd cl outer A₀ base h₀ L m s Q E hu st k many t0 tm c0 cst ys zs rest B F X N T hk hi hz hk0 hk1 hm0 hm1 hne hoff hd hu9 hret
  refine wpAny_call ?_
  k_dflt ktr_enter
  have kMark := kstMark
  rename_i N' _ _ _
  k_with_none
  (repeat' (first | (k_unfold; (try dsimp only)) | (k_end; wrow_close) | ((((fail_if_success (with_reducible show wpAny _ _ (PySem.exec (Stmt.While _ _ _ _) _) _ _ _)); (fail_if_success (with_reducible show wpAny _ _ (PySem.exec (Stmt.For _ _ _ _ _) _) _ _ _)); (fail_if_success (with_reducible show wpAny _ _ (pyIter (Value.ref _)) (fun it s₂ => LoopAtV _ _ _ _ _ _ _ _ _ it s₂) _ _)); (fail_if_success (with_reducible show wpAny _ _ (pyIter (Value.ref _)) (fun it s₂ => PairAt3 _ _ _ _ _ _ _ _ _ _ it s₂) _ _)))); first | walk1 | (dsimp only; walk1)) | (leave1; walk_say "STEP leave1"; try dsimp only) | fail "no step"))
  all_goals ((rename Fr _ _ _ _ => fE'); (rename News _ _ _ _ => nE'); exact hret _ _ (bred_end hm0 rfl fE' nE' (by k_memK) (by intro p9 h9; kst_mem)))
theorem off_nil {hu : Addr} : OwnOff [] [hu] := fun _ h => nomatch h
theorem off_cons {q : Addr × Obj} {r : List (Addr × Obj)} {hu : Addr} (h : @Ne Nat q.1 hu) (h2 : OwnOff r [hu]) : OwnOff (q :: r) [hu] := by
  intro p hp b hb
  rcases List.mem_cons.mp hp with e | hp
  · rw [e, List.mem_singleton.mp hb]; exact h
  · exact h2 p hp b hb
theorem bred_use {w : World} {mean : ExcName → Option Value} {mg mb : Str → Option Value}
    {dp un : Nat} {gd : Option (List Code)} {cn : Str} {cs : Scope} {a : Addr} {ccd : Value} {cl : List (Str × Addr)} {outer : List Env} {A₀ : Around} {base h₀ : Heap} {L : Addr} {m : Str → Option Value} {s : Shared}
    {Q E : Value → Shared → Prop} {hu st : Addr} {k many : Int} {t0 tm : Tok} {c0 cst : Nat} {ys : List Value} {zs : List Int} {rest : List (Addr × Obj)}
    (F : Fr h₀ L s.heap m) (N : News h₀ L s.heap ((hu, listOf #[.int k t0, .ref st] c0) :: rest)) (B : Below A₀ base outer h₀) (X : (hd.heap_39 w.params).In h₀) (T : Top hd.view_39 (looseW hd.view_39 []) mean mg mb h₀) (hk : cs.kind = .function)
    (hst : (st, listOf ys.toArray cst) ∈ rest) (hi : IntsAre ys zs) (hz : zs.length ≤ 63) (hk0 : 0 ≤ k) (hk1 : k < 10) (hm0 : 0 < many) (hm1 : many < 100) (hoff : OwnOff rest [hu]) (hdp : dp + 5 < recursionLimit) (hun : un + 8 * 5 < cLine)
    (cont : ∀ r t h' tk tk' c', 0 ≤ r → r < many → Fr h₀ L h' m → News h₀ L h' ((hu, listOf #[.int (k + 1) tk', .ref st] c') :: rest) → Q (.int r t) { s with heap := h', toks := tk }) :
    wpAny (model PySem.Challenge.rw_xm0396_01.row.prog w) (ktrTop dp un gd cn cs L a ccd cl outer) (call (.ref 116) [.ref hu, .int many tm]) Q E s := by
  refine bred_ok w mean mg mb dp un gd cn cs a ccd cl outer A₀ base h₀ L m s Q E hu st k many t0 tm c0 cst ys zs rest B F X (news_swap (news_at N (List.mem_cons_of_mem _ hst))) T hk hi hz hk0 hk1 hm0 hm1 (fun e => hoff _ hst _ (.head _) e.symm) hoff hdp hun ?_
  rintro v s' ⟨r, t, h', tk, tk', c', e1, h0, h1, e2, F', N'⟩
  rw [e1, e2]
  exact cont r t h' tk tk' c' h0 h1 F' (news_sub N' fun p hp => (List.mem_cons.mp hp).elim (fun e => e ▸ .head _) fun e => .tail _ (.tail _ e))
end
/- part main -/
section
theorem law_holds : PySem.Challenge.rw_xm0396_01.Holds := by
  k_with_none
  refine hd ?_
  k_go0
  all_goals (try k_fold)
  k_with_none
  (repeat' (first | (k_unfold; (try dsimp only)) | (k_end; wrow_close) | ((fail_if_success (with_reducible show wpAny _ _ (PySem.eval (Expr.ListComp _ _ _ _) _) _ _ _)); (fail_if_success (with_reducible show wpAny _ _ (PySem.exec (Stmt.Assign _ (Expr.ListComp _ _ _ _) _) _) _ _ _)); (fail_if_success (with_reducible show wpAny _ _ (PySem.call (Value.ref 116) _) _ _ _)); (fail_if_success (with_reducible show LCg.CompSrc _ _ _ _ _ _ _ _ _ _ _ _ _ _)); (fail_if_success (with_reducible show LCt.CompSrcT _ _ _ _ _ _ _ _ _ _ _ _ _ _ _)); (((fail_if_success (with_reducible show wpAny _ _ (PySem.exec (Stmt.While _ _ _ _) _) _ _ _)); (fail_if_success (with_reducible show wpAny _ _ (PySem.exec (Stmt.For _ _ _ _ _) _) _ _ _)); (fail_if_success (with_reducible show wpAny _ _ (pyIter (Value.ref _)) (fun it s₂ => LoopAtV _ _ _ _ _ _ _ _ _ it s₂) _ _)); (fail_if_success (with_reducible show wpAny _ _ (pyIter (Value.ref _)) (fun it s₂ => PairAt3 _ _ _ _ _ _ _ _ _ _ it s₂) _ _)))); first | walk1 | (dsimp only; walk1)) | (leave1; walk_say "STEP leave1"; try dsimp only) | fail "no step"))
  (first | walk1 | (dsimp only; walk1))
  (repeat' (first | (k_unfold; (try dsimp only)) | (k_end; wrow_close) | ((fail_if_success (with_reducible show wpAny _ _ (PySem.eval (Expr.ListComp _ _ _ _) _) _ _ _)); (fail_if_success (with_reducible show wpAny _ _ (PySem.exec (Stmt.Assign _ (Expr.ListComp _ _ _ _) _) _) _ _ _)); (fail_if_success (with_reducible show wpAny _ _ (PySem.call (Value.ref 116) _) _ _ _)); (fail_if_success (with_reducible show LCg.CompSrc _ _ _ _ _ _ _ _ _ _ _ _ _ _)); (fail_if_success (with_reducible show LCt.CompSrcT _ _ _ _ _ _ _ _ _ _ _ _ _ _ _)); (((fail_if_success (with_reducible show wpAny _ _ (PySem.exec (Stmt.While _ _ _ _) _) _ _ _)); (fail_if_success (with_reducible show wpAny _ _ (PySem.exec (Stmt.For _ _ _ _ _) _) _ _ _)); (fail_if_success (with_reducible show wpAny _ _ (pyIter (Value.ref _)) (fun it s₂ => LoopAtV _ _ _ _ _ _ _ _ _ it s₂) _ _)); (fail_if_success (with_reducible show wpAny _ _ (pyIter (Value.ref _)) (fun it s₂ => PairAt3 _ _ _ _ _ _ _ _ _ _ it s₂) _ _)))); first | walk1 | (dsimp only; walk1)) | (leave1; walk_say "STEP leave1"; try dsimp only) | fail "no step"))
  rename_i _ _ cw cp hcw hcp _ aSl wsSl _ hSl _ _ _ _ _ gg hSt hStL aSt hh _ _ aHu _ lHu _ F1 N1
  (refine bred_use (many := 6) F1 N1 (by k_asm) (by k_asm) (by k_asm) (by first | exact rfl | assumption) (by k_memK) (by assumption) (by rw [List.length_map, List.length_take]; omega) (by omega) (by omega) (by omega) (by omega) (by repeat' (first | exact off_nil | assumption | refine off_cons ?_ ?_ | (dsimp only; omega))) (by first | ((simp only [depth_deeper, depth_in1, depth_under_make, depth_under_kw]); (try dsimp only [ktrTop]); omega) | decide +kernel) (by first | ((simp only [units_deeper, units_in1, Around.mark_units]); (try dsimp only [ktrTop]); omega) | decide +kernel) ?cont)
  case cont =>
    intro r1 t1 h1 tk1 tk2 c1 hr1 hr2 F2 N2
    clear F1 N1
    (repeat' (first | (k_unfold; (try dsimp only)) | (k_end; wrow_close) | ((fail_if_success (with_reducible show wpAny _ _ (PySem.eval (Expr.ListComp _ _ _ _) _) _ _ _)); (fail_if_success (with_reducible show wpAny _ _ (PySem.exec (Stmt.Assign _ (Expr.ListComp _ _ _ _) _) _) _ _ _)); (fail_if_success (with_reducible show wpAny _ _ (PySem.call (Value.ref 116) _) _ _ _)); (fail_if_success (with_reducible show LCg.CompSrc _ _ _ _ _ _ _ _ _ _ _ _ _ _)); (fail_if_success (with_reducible show LCt.CompSrcT _ _ _ _ _ _ _ _ _ _ _ _ _ _ _)); (((fail_if_success (with_reducible show wpAny _ _ (PySem.exec (Stmt.While _ _ _ _) _) _ _ _)); (fail_if_success (with_reducible show wpAny _ _ (PySem.exec (Stmt.For _ _ _ _ _) _) _ _ _)); (fail_if_success (with_reducible show wpAny _ _ (pyIter (Value.ref _)) (fun it s₂ => LoopAtV _ _ _ _ _ _ _ _ _ it s₂) _ _)); (fail_if_success (with_reducible show wpAny _ _ (pyIter (Value.ref _)) (fun it s₂ => PairAt3 _ _ _ _ _ _ _ _ _ _ it s₂) _ _)))); first | walk1 | (dsimp only; walk1)) | (leave1; walk_say "STEP leave1"; try dsimp only) | fail "no step"))
    (rename Fr _ _ _ _ => F3)
    (rename News _ _ _ _ => N3)
    (refine bred_use (many := 41) F3 N3 (by k_asm) (by k_asm) (by k_asm) (by first | exact rfl | assumption) (by k_memK) (by assumption) (by rw [List.length_map, List.length_take]; omega) (by omega) (by omega) (by omega) (by omega) (by repeat' (first | exact off_nil | assumption | refine off_cons ?_ ?_ | (dsimp only; omega))) (by first | ((simp only [depth_deeper, depth_in1, depth_under_make, depth_under_kw]); (try dsimp only [ktrTop]); omega) | decide +kernel) (by first | ((simp only [units_deeper, units_in1, Around.mark_units]); (try dsimp only [ktrTop]); omega) | decide +kernel) ?cont)
    case cont =>
      intro r2 t2 h2 tk3 tk4 c2 hr3 hr4 F4 N4
      clear F3 N3
      (repeat' (first | (k_unfold; (try dsimp only)) | (k_end; wrow_close) | ((fail_if_success (with_reducible show wpAny _ _ (PySem.eval (Expr.ListComp _ _ _ _) _) _ _ _)); (fail_if_success (with_reducible show wpAny _ _ (PySem.exec (Stmt.Assign _ (Expr.ListComp _ _ _ _) _) _) _ _ _)); (fail_if_success (with_reducible show wpAny _ _ (PySem.call (Value.ref 116) _) _ _ _)); (fail_if_success (with_reducible show LCg.CompSrc _ _ _ _ _ _ _ _ _ _ _ _ _ _)); (fail_if_success (with_reducible show LCt.CompSrcT _ _ _ _ _ _ _ _ _ _ _ _ _ _ _)); (((fail_if_success (with_reducible show wpAny _ _ (PySem.exec (Stmt.While _ _ _ _) _) _ _ _)); (fail_if_success (with_reducible show wpAny _ _ (PySem.exec (Stmt.For _ _ _ _ _) _) _ _ _)); (fail_if_success (with_reducible show wpAny _ _ (pyIter (Value.ref _)) (fun it s₂ => LoopAtV _ _ _ _ _ _ _ _ _ it s₂) _ _)); (fail_if_success (with_reducible show wpAny _ _ (pyIter (Value.ref _)) (fun it s₂ => PairAt3 _ _ _ _ _ _ _ _ _ _ it s₂) _ _)))); first | walk1 | (dsimp only; walk1)) | (leave1; walk_say "STEP leave1"; try dsimp only) | fail "no step"))
      (rename _ = Data.cell (some (Value.int (3 + r1) _)) => hW)
      (k_dflt (refine LCg.Assign_ListComp_U (F₀ := by k_asm) (by rfl) (by with_unfolding_all rfl) (by with_unfolding_all rfl) (by decide) (by rfl) (by decide) (by rfl) (by rfl) (by rfl) ?_))
      (repeat' (first | (k_unfold; (try dsimp only)) | (k_end; wrow_close) | ((fail_if_success (with_reducible show wpAny _ _ (PySem.eval (Expr.ListComp _ _ _ _) _) _ _ _)); (fail_if_success (with_reducible show wpAny _ _ (PySem.exec (Stmt.Assign _ (Expr.ListComp _ _ _ _) _) _) _ _ _)); (fail_if_success (with_reducible show wpAny _ _ (PySem.call (Value.ref 116) _) _ _ _)); (fail_if_success (with_reducible show LCg.CompSrc _ _ _ _ _ _ _ _ _ _ _ _ _ _)); (fail_if_success (with_reducible show LCt.CompSrcT _ _ _ _ _ _ _ _ _ _ _ _ _ _ _)); (((fail_if_success (with_reducible show wpAny _ _ (PySem.exec (Stmt.While _ _ _ _) _) _ _ _)); (fail_if_success (with_reducible show wpAny _ _ (PySem.exec (Stmt.For _ _ _ _ _) _) _ _ _)); (fail_if_success (with_reducible show wpAny _ _ (pyIter (Value.ref _)) (fun it s₂ => LoopAtV _ _ _ _ _ _ _ _ _ it s₂) _ _)); (fail_if_success (with_reducible show wpAny _ _ (pyIter (Value.ref _)) (fun it s₂ => PairAt3 _ _ _ _ _ _ _ _ _ _ it s₂) _ _)))); first | walk1 | (dsimp only; walk1)) | (leave1; walk_say "STEP leave1"; try dsimp only) | fail "no step"))
      (k_dflt (refine LCg.CompSrc.range (n := 11) (by rfl) (by k_asm) (by k_asm) (by assumption) (by decide) (by rfl) (by first | size_fits | exact Nat.le_of_ble_eq_true rfl) ?_))
      intro g'
      refine told_rest (wd := 3 + r1) hW (by k_memK) (fun i t I oI C oC D m₂ ys nw h tk E' hi hC hx F N off ne hsub => ?_) (fun ys nw tl hsub htl hal0 hT => ?_)
      · (repeat' (first | (k_unfold; (try dsimp only)) | (k_end; wrow_close) | ((fail_if_success (with_reducible show wpAny _ _ (PySem.eval (Expr.ListComp _ _ _ _) _) _ _ _)); (fail_if_success (with_reducible show wpAny _ _ (PySem.exec (Stmt.Assign _ (Expr.ListComp _ _ _ _) _) _) _ _ _)); (fail_if_success (with_reducible show wpAny _ _ (PySem.call (Value.ref _) _) _ _ _)); (fail_if_success (with_reducible show LCg.CompSrc _ _ _ _ _ _ _ _ _ _ _ _ _ _)); (fail_if_success (with_reducible show LCt.CompSrcT _ _ _ _ _ _ _ _ _ _ _ _ _ _ _)); (((fail_if_success (with_reducible show wpAny _ _ (PySem.exec (Stmt.While _ _ _ _) _) _ _ _)); (fail_if_success (with_reducible show wpAny _ _ (PySem.exec (Stmt.For _ _ _ _ _) _) _ _ _)); (fail_if_success (with_reducible show wpAny _ _ (pyIter (Value.ref _)) (fun it s₂ => LoopAtV _ _ _ _ _ _ _ _ _ it s₂) _ _)); (fail_if_success (with_reducible show wpAny _ _ (pyIter (Value.ref _)) (fun it s₂ => PairAt3 _ _ _ _ _ _ _ _ _ _ it s₂) _ _)))); first | walk1 | (dsimp only; walk1)) | (leave1; walk_say "STEP leave1"; try dsimp only) | fail "no step"))
        ((refine keeps_use (d := ⟨_, _⟩) fib_ok (by k_asm) (by k_asm) (by k_asm) (by k_asm) (by k_asm) (by first | exact rfl | assumption) (by exact ⟨_, _, (by exact rfl)⟩) (by (refine ⟨?_, ?_, ?_, ?_⟩ <;> (try dsimp only) <;> omega)) (by first | ((simp only [fibC, depth_deeper, depth_in1, depth_under_make, depth_under_kw]); (try dsimp only [ktrTop]); omega) | decide +kernel) (by first | ((simp only [fibC, units_deeper, units_in1, Around.mark_units]); (try dsimp only [ktrTop]); omega) | decide +kernel) ?_); (intro r9 tl9 h9 tk9 F' N' hl9 ho9); (obtain ⟨a9, us9, k9, xs9, e1, e2, hi9, hg9⟩ := ho9); (subst e1; subst e2); (simp only [List.cons_append, List.nil_append] at N'); (have l1 := lt_of_one hl9); (try simp only [AllLt, and_true] at l1); (clear hl9); (try dsimp only at hg9); (have hL9 := hg9.1))
        have ei : (0 + (i : Int)).toNat = i := by omega
        rw [ei] at hg9
        (repeat' (first | (k_unfold; (try dsimp only)) | (k_end; wrow_close) | ((fail_if_success (with_reducible show wpAny _ _ (PySem.eval (Expr.ListComp _ _ _ _) _) _ _ _)); (fail_if_success (with_reducible show wpAny _ _ (PySem.exec (Stmt.Assign _ (Expr.ListComp _ _ _ _) _) _) _ _ _)); (fail_if_success (with_reducible show wpAny _ _ (PySem.call (Value.ref 116) _) _ _ _)); (fail_if_success (with_reducible show LCg.CompSrc _ _ _ _ _ _ _ _ _ _ _ _ _ _)); (fail_if_success (with_reducible show LCt.CompSrcT _ _ _ _ _ _ _ _ _ _ _ _ _ _ _)); (((fail_if_success (with_reducible show wpAny _ _ (PySem.exec (Stmt.While _ _ _ _) _) _ _ _)); (fail_if_success (with_reducible show wpAny _ _ (PySem.exec (Stmt.For _ _ _ _ _) _) _ _ _)); (fail_if_success (with_reducible show wpAny _ _ (pyIter (Value.ref _)) (fun it s₂ => LoopAtV _ _ _ _ _ _ _ _ _ it s₂) _ _)); (fail_if_success (with_reducible show wpAny _ _ (pyIter (Value.ref _)) (fun it s₂ => PairAt3 _ _ _ _ _ _ _ _ _ _ it s₂) _ _)))); first | walk1 | (dsimp only; walk1)) | (leave1; walk_say "STEP leave1"; try dsimp only) | fail "no step"))
        (rename News _ _ _ _ => nE'; rename Fr _ _ _ _ => fE'; exact td_end fE' nE' (by k_memK) hi9 hg9 (by k_memK) (by k_memK) (by k_memK) (by intro p9 h9; kst_mem) off (by omega) (by omega) (by omega) (by (first | assumption | exact allLt_of (by assumption) | exact lt_app (by assumption) | exact And.right (by assumption) | exact lt_app (And.right (by assumption)) | exact And.right (And.right (by assumption)) | exact lt_app (And.right (And.right (by assumption))) | exact And.right (And.right (And.right (by assumption))) | exact lt_app (And.right (And.right (And.right (by assumption)))) | exact And.right (And.right (And.right (And.right (by assumption)))) | exact lt_app (And.right (And.right (And.right (And.right (by assumption))))) | exact And.right (And.right (And.right (And.right (And.right (by assumption))))) | exact lt_app (And.right (And.right (And.right (And.right (And.right (by assumption)))))) | exact And.right (And.right (And.right (And.right (And.right (And.right (by assumption)))))) | exact lt_app (And.right (And.right (And.right (And.right (And.right (And.right (by assumption))))))) | exact And.right (And.right (And.right (And.right (And.right (And.right (And.right (by assumption))))))) | exact lt_app (And.right (And.right (And.right (And.right (And.right (And.right (And.right (by assumption)))))))) | exact And.right (And.right (And.right (And.right (And.right (And.right (And.right (And.right (by assumption)))))))) | exact lt_app (And.right (And.right (And.right (And.right (And.right (And.right (And.right (And.right (by assumption))))))))) | exact And.right (And.right (And.right (And.right (And.right (And.right (And.right (And.right (And.right (by assumption))))))))) | exact lt_app (And.right (And.right (And.right (And.right (And.right (And.right (And.right (And.right (And.right (by assumption)))))))))) | exact And.right (And.right (And.right (And.right (And.right (And.right (And.right (And.right (And.right (And.right (by assumption)))))))))) | exact lt_app (And.right (And.right (And.right (And.right (And.right (And.right (And.right (And.right (And.right (And.right (by assumption))))))))))) | exact And.right (And.right (And.right (And.right (And.right (And.right (And.right (And.right (And.right (And.right (And.right (by assumption))))))))))) | exact lt_app (And.right (And.right (And.right (And.right (And.right (And.right (And.right (And.right (And.right (And.right (And.right (by assumption)))))))))))) | exact And.right (And.right (And.right (And.right (And.right (And.right (And.right (And.right (And.right (And.right (And.right (And.right (by assumption)))))))))))) | exact lt_app (And.right (And.right (And.right (And.right (And.right (And.right (And.right (And.right (And.right (And.right (And.right (And.right (by assumption))))))))))))) | exact And.right (And.right (And.right (And.right (And.right (And.right (And.right (And.right (And.right (And.right (And.right (And.right (And.right (by assumption))))))))))))) | exact lt_app (And.right (And.right (And.right (And.right (And.right (And.right (And.right (And.right (And.right (And.right (And.right (And.right (And.right (by assumption)))))))))))))) | exact And.right (And.right (And.right (And.right (And.right (And.right (And.right (And.right (And.right (And.right (And.right (And.right (And.right (And.right (by assumption)))))))))))))) | exact lt_app (And.right (And.right (And.right (And.right (And.right (And.right (And.right (And.right (And.right (And.right (And.right (And.right (And.right (And.right (by assumption))))))))))))))) | exact And.right (And.right (And.right (And.right (And.right (And.right (And.right (And.right (And.right (And.right (And.right (And.right (And.right (And.right (And.right (by assumption))))))))))))))) | exact lt_app (And.right (And.right (And.right (And.right (And.right (And.right (And.right (And.right (And.right (And.right (And.right (And.right (And.right (And.right (And.right (by assumption)))))))))))))))) | exact And.right (And.right (And.right (And.right (And.right (And.right (And.right (And.right (And.right (And.right (And.right (And.right (And.right (And.right (And.right (And.right (by assumption)))))))))))))))) | exact lt_app (And.right (And.right (And.right (And.right (And.right (And.right (And.right (And.right (And.right (And.right (And.right (And.right (And.right (And.right (And.right (And.right (by assumption))))))))))))))))))) hsub)
      · intro D9 h9 tk9 F9 N9 o9
        have N8 := told_news N9 hsub htl
        have hal := hal0.nil
        have hne1 := off1_mem o9 (hsub _ (.tail _ (.head _)))
        have hOff : OwnOff tl [aHu] := off_of hal0 (.tail _ (.head _))
        clear N9
        have hsz : ys.toArray.size ≤ sizeLine := by
          rw [List.size_toArray, hT.1]; exact Nat.le_of_ble_eq_true rfl
        (repeat' (first | (k_unfold; (try dsimp only)) | (k_end; wrow_close) | ((fail_if_success (with_reducible show wpAny _ _ (PySem.eval (Expr.ListComp _ _ _ _) _) _ _ _)); (fail_if_success (with_reducible show wpAny _ _ (PySem.exec (Stmt.Assign _ (Expr.ListComp _ _ _ _) _) _) _ _ _)); (fail_if_success (with_reducible show wpAny _ _ (PySem.call (Value.ref 116) _) _ _ _)); (fail_if_success (with_reducible show LCg.CompSrc _ _ _ _ _ _ _ _ _ _ _ _ _ _)); (fail_if_success (with_reducible show LCt.CompSrcT _ _ _ _ _ _ _ _ _ _ _ _ _ _ _)); (((fail_if_success (with_reducible show wpAny _ _ (PySem.exec (Stmt.While _ _ _ _) _) _ _ _)); (fail_if_success (with_reducible show wpAny _ _ (PySem.exec (Stmt.For _ _ _ _ _) _) _ _ _)); (fail_if_success (with_reducible show wpAny _ _ (pyIter (Value.ref _)) (fun it s₂ => LoopAtV _ _ _ _ _ _ _ _ _ it s₂) _ _)); (fail_if_success (with_reducible show wpAny _ _ (pyIter (Value.ref _)) (fun it s₂ => PairAt3 _ _ _ _ _ _ _ _ _ _ it s₂) _ _)))); first | walk1 | (dsimp only; walk1)) | (leave1; walk_say "STEP leave1"; try dsimp only) | fail "no step"))
        (k_dflt (refine LCg.ListComp_U (F₀ := by k_asm) (by with_unfolding_all rfl) (by decide) (by rfl) (by decide) (by rfl) ?_))
        (repeat' (first | (k_unfold; (try dsimp only)) | (k_end; wrow_close) | ((fail_if_success (with_reducible show wpAny _ _ (PySem.eval (Expr.ListComp _ _ _ _) _) _ _ _)); (fail_if_success (with_reducible show wpAny _ _ (PySem.exec (Stmt.Assign _ (Expr.ListComp _ _ _ _) _) _) _ _ _)); (fail_if_success (with_reducible show wpAny _ _ (PySem.call (Value.ref 116) _) _ _ _)); (fail_if_success (with_reducible show LCg.CompSrc _ _ _ _ _ _ _ _ _ _ _ _ _ _)); (fail_if_success (with_reducible show LCt.CompSrcT _ _ _ _ _ _ _ _ _ _ _ _ _ _ _)); (((fail_if_success (with_reducible show wpAny _ _ (PySem.exec (Stmt.While _ _ _ _) _) _ _ _)); (fail_if_success (with_reducible show wpAny _ _ (PySem.exec (Stmt.For _ _ _ _ _) _) _ _ _)); (fail_if_success (with_reducible show wpAny _ _ (pyIter (Value.ref _)) (fun it s₂ => LoopAtV _ _ _ _ _ _ _ _ _ it s₂) _ _)); (fail_if_success (with_reducible show wpAny _ _ (pyIter (Value.ref _)) (fun it s₂ => PairAt3 _ _ _ _ _ _ _ _ _ _ it s₂) _ _)))); first | walk1 | (dsimp only; walk1)) | (leave1; walk_say "STEP leave1"; try dsimp only) | fail "no step"))
        (k_dflt (refine LCg.CompSrc.ledger (by rfl) (by k_asm) (by k_asm) (by k_memK) (by assumption) ?_))
        intro g'
        refine worth_rest (wd := 3 + r1) hW hT (by intro p9 h9; kst_mem) (by k_memK) (fun i a us k xs I oI C oC D m₂ ys' h tk E' hi hia hga hC hx F N off ne => ?_) (fun zs hz => ?_)
        · have hf := fib_lt ⟨i, hi⟩
          dsimp only at hf
          (repeat' (first | (k_unfold; (try dsimp only)) | (k_end; wrow_close) | ((fail_if_success (with_reducible show wpAny _ _ (PySem.eval (Expr.ListComp _ _ _ _) _) _ _ _)); (fail_if_success (with_reducible show wpAny _ _ (PySem.exec (Stmt.Assign _ (Expr.ListComp _ _ _ _) _) _) _ _ _)); (fail_if_success (with_reducible show wpAny _ _ (PySem.call (Value.ref _) _) _ _ _)); (fail_if_success (with_reducible show LCg.CompSrc _ _ _ _ _ _ _ _ _ _ _ _ _ _)); (fail_if_success (with_reducible show LCt.CompSrcT _ _ _ _ _ _ _ _ _ _ _ _ _ _ _)); (((fail_if_success (with_reducible show wpAny _ _ (PySem.exec (Stmt.While _ _ _ _) _) _ _ _)); (fail_if_success (with_reducible show wpAny _ _ (PySem.exec (Stmt.For _ _ _ _ _) _) _ _ _)); (fail_if_success (with_reducible show wpAny _ _ (pyIter (Value.ref _)) (fun it s₂ => LoopAtV _ _ _ _ _ _ _ _ _ it s₂) _ _)); (fail_if_success (with_reducible show wpAny _ _ (pyIter (Value.ref _)) (fun it s₂ => PairAt3 _ _ _ _ _ _ _ _ _ _ it s₂) _ _)))); first | walk1 | (dsimp only; walk1)) | (leave1; walk_say "STEP leave1"; try dsimp only) | fail "no step"))
          ((refine keeps_use (d := ⟨_, _⟩) worth_ok (by k_asm) (by k_asm) (by k_asm) (by k_asm) (by k_asm) (by first | exact rfl | assumption) (by exact ⟨_, _, (by exact rfl), ⟨_, _, _, _, (by exact rfl), by k_memK, by assumption, by assumption⟩⟩) (by (refine ⟨?_, ?_, ?_⟩ <;> (try dsimp only) <;> omega)) (by first | ((simp only [worthC, depth_deeper, depth_in1, depth_under_make, depth_under_kw]); (try dsimp only [ktrTop]); omega) | decide +kernel) (by first | ((simp only [worthC, units_deeper, units_in1, Around.mark_units]); (try dsimp only [ktrTop]); omega) | decide +kernel) ?_); (intro r9 tl9 h9 tk9 F' N' hl9 ho9); (obtain ⟨e2, t9, e1⟩ := ho9); (subst e1; subst e2); (simp only [List.nil_append] at N'); (clear hl9); (try dsimp only))
          (repeat' (first | (k_unfold; (try dsimp only)) | (k_end; wrow_close) | ((fail_if_success (with_reducible show wpAny _ _ (PySem.eval (Expr.ListComp _ _ _ _) _) _ _ _)); (fail_if_success (with_reducible show wpAny _ _ (PySem.exec (Stmt.Assign _ (Expr.ListComp _ _ _ _) _) _) _ _ _)); (fail_if_success (with_reducible show wpAny _ _ (PySem.call (Value.ref 116) _) _ _ _)); (fail_if_success (with_reducible show LCg.CompSrc _ _ _ _ _ _ _ _ _ _ _ _ _ _)); (fail_if_success (with_reducible show LCt.CompSrcT _ _ _ _ _ _ _ _ _ _ _ _ _ _ _)); (((fail_if_success (with_reducible show wpAny _ _ (PySem.exec (Stmt.While _ _ _ _) _) _ _ _)); (fail_if_success (with_reducible show wpAny _ _ (PySem.exec (Stmt.For _ _ _ _ _) _) _ _ _)); (fail_if_success (with_reducible show wpAny _ _ (pyIter (Value.ref _)) (fun it s₂ => LoopAtV _ _ _ _ _ _ _ _ _ it s₂) _ _)); (fail_if_success (with_reducible show wpAny _ _ (pyIter (Value.ref _)) (fun it s₂ => PairAt3 _ _ _ _ _ _ _ _ _ _ it s₂) _ _)))); first | walk1 | (dsimp only; walk1)) | (leave1; walk_say "STEP leave1"; try dsimp only) | fail "no step"))
          all_goals exact ⟨rfl, t9, rfl⟩
        · rw [fibs_eq] at hz
          intro D7 h7 tk7 F7 N7 o7
          (repeat' (first | (k_unfold; (try dsimp only)) | (k_end; wrow_close) | ((fail_if_success (with_reducible show wpAny _ _ (PySem.eval (Expr.ListComp _ _ _ _) _) _ _ _)); (fail_if_success (with_reducible show wpAny _ _ (PySem.exec (Stmt.Assign _ (Expr.ListComp _ _ _ _) _) _) _ _ _)); (fail_if_success (with_reducible show wpAny _ _ (PySem.call (Value.ref _) _) _ _ _)); (fail_if_success (with_reducible show LCg.CompSrc _ _ _ _ _ _ _ _ _ _ _ _ _ _)); (fail_if_success (with_reducible show LCt.CompSrcT _ _ _ _ _ _ _ _ _ _ _ _ _ _ _)); (((fail_if_success (with_reducible show wpAny _ _ (PySem.exec (Stmt.While _ _ _ _) _) _ _ _)); (fail_if_success (with_reducible show wpAny _ _ (PySem.exec (Stmt.For _ _ _ _ _) _) _ _ _)); (fail_if_success (with_reducible show wpAny _ _ (pyIter (Value.ref _)) (fun it s₂ => LoopAtV _ _ _ _ _ _ _ _ _ it s₂) _ _)); (fail_if_success (with_reducible show wpAny _ _ (pyIter (Value.ref _)) (fun it s₂ => PairAt3 _ _ _ _ _ _ _ _ _ _ it s₂) _ _)))); first | walk1 | (dsimp only; walk1)) | (leave1; walk_say "STEP leave1"; try dsimp only) | fail "no step"))
          ((refine keeps_use (d := ⟨_, _⟩) greedy_ok (by k_asm) (by k_asm) (by k_asm) (by k_asm) (by k_asm) (by first | exact rfl | assumption) (by exact ⟨_, _, _, (by exact rfl), by first | assumption | exact told_of (by assumption) (by k_memK) (by intro p9 h9; kst_mem)⟩) (by (refine ⟨?_, ?_, ?_, ?_⟩ <;> (try dsimp only) <;> omega)) (by first | ((simp only [greedyC, depth_deeper, depth_in1, depth_under_make, depth_under_kw]); (try dsimp only [ktrTop]); omega) | decide +kernel) (by first | ((simp only [greedyC, units_deeper, units_in1, Around.mark_units]); (try dsimp only [ktrTop]); omega) | decide +kernel) ?_); (intro r9 tl9 h9 tk9 F' N' hl9 ho9); (obtain ⟨a9, us9, k9, e1, e2, hi9⟩ := ho9); (subst e1; subst e2); (simp only [List.cons_append, List.nil_append] at N'); (have l1 := lt_of_one hl9); (try simp only [AllLt, and_true] at l1); (clear hl9))
          (repeat' (first | (k_unfold; (try dsimp only)) | (k_end; wrow_close) | ((fail_if_success (with_reducible show wpAny _ _ (PySem.eval (Expr.ListComp _ _ _ _) _) _ _ _)); (fail_if_success (with_reducible show wpAny _ _ (PySem.exec (Stmt.Assign _ (Expr.ListComp _ _ _ _) _) _) _ _ _)); (fail_if_success (with_reducible show wpAny _ _ (PySem.call (Value.ref _) _) _ _ _)); (fail_if_success (with_reducible show LCg.CompSrc _ _ _ _ _ _ _ _ _ _ _ _ _ _)); (fail_if_success (with_reducible show LCt.CompSrcT _ _ _ _ _ _ _ _ _ _ _ _ _ _ _)); (((fail_if_success (with_reducible show wpAny _ _ (PySem.exec (Stmt.While _ _ _ _) _) _ _ _)); (fail_if_success (with_reducible show wpAny _ _ (PySem.exec (Stmt.For _ _ _ _ _) _) _ _ _)); (fail_if_success (with_reducible show wpAny _ _ (pyIter (Value.ref _)) (fun it s₂ => LoopAtV _ _ _ _ _ _ _ _ _ it s₂) _ _)); (fail_if_success (with_reducible show wpAny _ _ (pyIter (Value.ref _)) (fun it s₂ => PairAt3 _ _ _ _ _ _ _ _ _ _ it s₂) _ _)))); first | walk1 | (dsimp only; walk1)) | (leave1; walk_say "STEP leave1"; try dsimp only) | fail "no step"))
          dsimp only at hi9
          (rename Fr _ _ _ _ => F6)
          (rename News _ _ _ _ => N6)
          refine store_first F6 N6 rfl rfl rfl hcw (fun v h => nomatch h) (fun v h => nomatch h) (fun v h => nomatch h) (fun v h => nomatch h) (Nat.ne_of_lt (Nat.lt_succ_self _)) hal ?_
          intro h5 oP F5 N5 hP5
          clear F6 N6
          have hA1 : @LT.lt Nat _ aHu a9 := by omega
          have lKeep := fun (_ : Unit) => lHu
          clear lHu o7 o9 hsub htl hal0 hz hStL hSl
          repeat ((rename @LT.lt Nat _ _ _ ∧ _ => hX); clear hX)
          have lHu := lKeep ()
          clear lKeep
          (repeat' (first | (k_unfold; (try dsimp only)) | (k_end; wrow_close) | ((fail_if_success (with_reducible show wpAny _ _ (PySem.eval (Expr.ListComp _ _ _ _) _) _ _ _)); (fail_if_success (with_reducible show wpAny _ _ (PySem.exec (Stmt.Assign _ (Expr.ListComp _ _ _ _) _) _) _ _ _)); (fail_if_success (with_reducible show wpAny _ _ (PySem.call (Value.ref _) _) _ _ _)); (fail_if_success (with_reducible show LCg.CompSrc _ _ _ _ _ _ _ _ _ _ _ _ _ _)); (fail_if_success (with_reducible show LCt.CompSrcT _ _ _ _ _ _ _ _ _ _ _ _ _ _ _)); (((fail_if_success (with_reducible show wpAny _ _ (PySem.exec (Stmt.While _ _ _ _) _) _ _ _)); (fail_if_success (with_reducible show wpAny _ _ (PySem.exec (Stmt.For _ _ _ _ _) _) _ _ _)); (fail_if_success (with_reducible show wpAny _ _ (pyIter (Value.ref _)) (fun it s₂ => LoopAtV _ _ _ _ _ _ _ _ _ it s₂) _ _)); (fail_if_success (with_reducible show wpAny _ _ (pyIter (Value.ref _)) (fun it s₂ => PairAt3 _ _ _ _ _ _ _ _ _ _ it s₂) _ _)))); first | walk1 | (dsimp only; walk1)) | (leave1; walk_say "STEP leave1"; try dsimp only) | fail "no step"))
          walk_at "for"
          (repeat' (first | (k_unfold; (try dsimp only)) | (k_end; wrow_close) | ((fail_if_success (with_reducible show wpAny _ _ (PySem.eval (Expr.ListComp _ _ _ _) _) _ _ _)); (fail_if_success (with_reducible show wpAny _ _ (PySem.exec (Stmt.Assign _ (Expr.ListComp _ _ _ _) _) _) _ _ _)); (fail_if_success (with_reducible show wpAny _ _ (PySem.call (Value.ref 116) _) _ _ _)); (fail_if_success (with_reducible show LCg.CompSrc _ _ _ _ _ _ _ _ _ _ _ _ _ _)); (fail_if_success (with_reducible show LCt.CompSrcT _ _ _ _ _ _ _ _ _ _ _ _ _ _ _)); (((fail_if_success (with_reducible show wpAny _ _ (PySem.exec (Stmt.While _ _ _ _) _) _ _ _)); (fail_if_success (with_reducible show wpAny _ _ (PySem.exec (Stmt.For _ _ _ _ _) _) _ _ _)); (fail_if_success (with_reducible show wpAny _ _ (pyIter (Value.ref _)) (fun it s₂ => LoopAtV _ _ _ _ _ _ _ _ _ it s₂) _ _)); (fail_if_success (with_reducible show wpAny _ _ (pyIter (Value.ref _)) (fun it s₂ => PairAt3 _ _ _ _ _ _ _ _ _ _ it s₂) _ _)))); first | walk1 | (dsimp only; walk1)) | (leave1; walk_say "STEP leave1"; try dsimp only) | fail "no step"))
          (rename Fr _ _ _ _ => F4)
          (rename News _ _ _ _ => N4)
          (refine bred_use (many := 5) F4 (hu_first N4) (by k_asm) (by k_asm) (by k_asm) (by first | exact rfl | assumption) (by k_memK) (by assumption) (by rw [List.length_map, List.length_take]; omega) (by omega) (by omega) (by omega) (by omega) (by repeat' (first | exact off_nil | assumption | refine off_cons ?_ ?_ | (dsimp only; omega))) (by first | ((simp only [depth_deeper, depth_in1, depth_under_make, depth_under_kw]); (try dsimp only [ktrTop]); omega) | decide +kernel) (by first | ((simp only [units_deeper, units_in1, Around.mark_units]); (try dsimp only [ktrTop]); omega) | decide +kernel) ?cont)
          case cont =>
            intro r3 t3 h3 tk5 tk6 c3 hr5 hr6 F3 N3
            have N2 := hu_back N3
            clear N3 N4 F4
            (repeat' (first | (k_unfold; (try dsimp only)) | (k_end; wrow_close) | ((fail_if_success (with_reducible show wpAny _ _ (PySem.eval (Expr.ListComp _ _ _ _) _) _ _ _)); (fail_if_success (with_reducible show wpAny _ _ (PySem.exec (Stmt.Assign _ (Expr.ListComp _ _ _ _) _) _) _ _ _)); (fail_if_success (with_reducible show wpAny _ _ (PySem.call (Value.ref 116) _) _ _ _)); (fail_if_success (with_reducible show LCg.CompSrc _ _ _ _ _ _ _ _ _ _ _ _ _ _)); (fail_if_success (with_reducible show LCt.CompSrcT _ _ _ _ _ _ _ _ _ _ _ _ _ _ _)); (((fail_if_success (with_reducible show wpAny _ _ (PySem.exec (Stmt.While _ _ _ _) _) _ _ _)); (fail_if_success (with_reducible show wpAny _ _ (PySem.exec (Stmt.For _ _ _ _ _) _) _ _ _)); (fail_if_success (with_reducible show wpAny _ _ (pyIter (Value.ref _)) (fun it s₂ => LoopAtV _ _ _ _ _ _ _ _ _ it s₂) _ _)); (fail_if_success (with_reducible show wpAny _ _ (pyIter (Value.ref _)) (fun it s₂ => PairAt3 _ _ _ _ _ _ _ _ _ _ it s₂) _ _)))); first | walk1 | (dsimp only; walk1)) | (leave1; walk_say "STEP leave1"; try dsimp only) | fail "no step"))
            (rename Fr _ _ _ _ => F1)
            (rename News _ _ _ _ => N1)
            (rename IsRange _ _ _ _ _ _ _ _ => rg1)
            (with_unfolding_all refine' for_range2 (σ := TuS) (n := (2 + r3).toNat) (tuDyn _) _ (fun _ => []) [] (fun i => (i : Int)) (TuInv r2 aHu) ⟨a9, us9, k9, oP⟩ ?hkf rfl rg1 ?hsm ?hsz F1 N1 ?hk ?hp ?hc ?_ ?_)
            case hkf => (intro i hi; omega)
            case hsm => exact small_one (by decide) (by decide) (by omega) (by omega)
            case hsz =>
              have e9 : (2 + r3) = (((2 + r3).toNat : Nat) : Int) := by omega
              rw [e9, rangeSize_nat]
              rfl
            case hk => exact fun p hp => nomatch hp
            case hp => exact ⟨hP5, by rw [show r2 + ((0 : Nat) : Int) = r2 from Int.add_zero r2]; exact hi9, show @LT.lt Nat _ aHu a9 by omega⟩
            case hc => exact fun i c h => tu_dyn h
            · rintro ⟨a, us, k, o⟩ i t u h tk2 own hi ⟨q1, q2, q3⟩ hoc kFr kNews
              (try dsimp only [kstB] at kFr); (try dsimp only [tuDyn] at kNews); (try simp only [List.cons_append, List.nil_append] at kNews); dsimp only at q1 q2 q3
              (with_reducible show wpAny _ _ _ _ _ _)
              k_fold
              (repeat' (first | (k_unfold; (try dsimp only)) | (k_end; wrow_close) | ((fail_if_success (with_reducible show wpAny _ _ (PySem.eval (Expr.ListComp _ _ _ _) _) _ _ _)); (fail_if_success (with_reducible show wpAny _ _ (PySem.exec (Stmt.Assign _ (Expr.ListComp _ _ _ _) _) _) _ _ _)); (fail_if_success (with_reducible show wpAny _ _ (PySem.call (Value.ref _) _) _ _ _)); (fail_if_success (with_reducible show LCg.CompSrc _ _ _ _ _ _ _ _ _ _ _ _ _ _)); (fail_if_success (with_reducible show LCt.CompSrcT _ _ _ _ _ _ _ _ _ _ _ _ _ _ _)); (((fail_if_success (with_reducible show wpAny _ _ (PySem.exec (Stmt.While _ _ _ _) _) _ _ _)); (fail_if_success (with_reducible show wpAny _ _ (PySem.exec (Stmt.For _ _ _ _ _) _) _ _ _)); (fail_if_success (with_reducible show wpAny _ _ (pyIter (Value.ref _)) (fun it s₂ => LoopAtV _ _ _ _ _ _ _ _ _ it s₂) _ _)); (fail_if_success (with_reducible show wpAny _ _ (pyIter (Value.ref _)) (fun it s₂ => PairAt3 _ _ _ _ _ _ _ _ _ _ it s₂) _ _)))); first | walk1 | (dsimp only; walk1)) | (leave1; walk_say "STEP leave1"; try dsimp only) | fail "no step"))
              have hii : (i : Int) < 7 := by omega
              have h40 : 0 ≤ r2 + (i : Int) := by omega
              have h46 : r2 + (i : Int) < 46 := by omega
              ((refine keeps_use (d := ⟨_, _⟩) greedy_ok (by k_asm) (by k_asm) (by k_asm) (by k_asm) (by k_asm) (by first | exact rfl | assumption) (by exact ⟨_, _, _, (by exact rfl), by first | assumption | exact told_of (by assumption) (by k_memK) (by intro p9 h9; kst_mem)⟩) (by (refine ⟨?_, ?_, ?_, ?_⟩ <;> (try dsimp only) <;> omega)) (by first | ((simp only [greedyC, depth_deeper, depth_in1, depth_under_make, depth_under_kw]); (try dsimp only [ktrTop]); omega) | decide +kernel) (by first | ((simp only [greedyC, units_deeper, units_in1, Around.mark_units]); (try dsimp only [ktrTop]); omega) | decide +kernel) ?_); (intro r9 tl9 h9 tk9 F' N' hl9 ho9); (obtain ⟨a9, us9, k9, e1, e2, hi9⟩ := ho9); (subst e1; subst e2); (simp only [List.cons_append, List.nil_append] at N'); (have l1 := lt_of_one hl9); (try simp only [AllLt, and_true] at l1); (clear hl9))
              (repeat' (first | (k_unfold; (try dsimp only)) | (k_end; wrow_close) | ((fail_if_success (with_reducible show wpAny _ _ (PySem.eval (Expr.ListComp _ _ _ _) _) _ _ _)); (fail_if_success (with_reducible show wpAny _ _ (PySem.exec (Stmt.Assign _ (Expr.ListComp _ _ _ _) _) _) _ _ _)); (fail_if_success (with_reducible show wpAny _ _ (PySem.call (Value.ref _) _) _ _ _)); (fail_if_success (with_reducible show LCg.CompSrc _ _ _ _ _ _ _ _ _ _ _ _ _ _)); (fail_if_success (with_reducible show LCt.CompSrcT _ _ _ _ _ _ _ _ _ _ _ _ _ _ _)); (((fail_if_success (with_reducible show wpAny _ _ (PySem.exec (Stmt.While _ _ _ _) _) _ _ _)); (fail_if_success (with_reducible show wpAny _ _ (PySem.exec (Stmt.For _ _ _ _ _) _) _ _ _)); (fail_if_success (with_reducible show wpAny _ _ (pyIter (Value.ref _)) (fun it s₂ => LoopAtV _ _ _ _ _ _ _ _ _ it s₂) _ _)); (fail_if_success (with_reducible show wpAny _ _ (pyIter (Value.ref _)) (fun it s₂ => PairAt3 _ _ _ _ _ _ _ _ _ _ it s₂) _ _)))); first | walk1 | (dsimp only; walk1)) | (leave1; walk_say "STEP leave1"; try dsimp only) | fail "no step"))
              (k_dflt (refine LCt.ListComp_T (F₀ := by k_asm) (by with_unfolding_all rfl) (by decide) (by rfl) (by decide) (by rfl) ?_))
              (repeat' (first | (k_unfold; (try dsimp only)) | (k_end; wrow_close) | ((((fail_if_success (with_reducible show wpAny _ _ (PySem.call (Value.builtin "len") [Value.ref _]) _ _ _)); (fail_if_success (with_reducible show wpAny _ _ (subscriptTail _ _ (Value.ref _) (Value.int _ _)) _ _ _)); (fail_if_success (with_reducible show wpAny _ _ (PySem.call (Value.ref _) _) _ _ _)); (((fail_if_success (with_reducible show wpAny _ _ (PySem.exec (Stmt.While _ _ _ _) _) _ _ _)); (fail_if_success (with_reducible show wpAny _ _ (PySem.exec (Stmt.For _ _ _ _ _) _) _ _ _)); (fail_if_success (with_reducible show wpAny _ _ (pyIter (Value.ref _)) (fun it s₂ => LoopAtV _ _ _ _ _ _ _ _ _ it s₂) _ _)); (fail_if_success (with_reducible show wpAny _ _ (pyIter (Value.ref _)) (fun it s₂ => PairAt3 _ _ _ _ _ _ _ _ _ _ it s₂) _ _)))))); first | walk1 | (dsimp only; walk1)) | (leave1; walk_say "STEP leave1"; try dsimp only) | fail "no step"))
              have hgs := gr_small (n := r2 + (i : Int)) h40 (Int.lt_trans h46 (by decide))
              have hgl := hgs.1
              (k_dflt (refine kst_len (k := (greedyL (r2 + (i : Int))).length) (by k_asm) (by k_memK) (IntsAre.length q2) (by omega) ?_))
              (repeat' (first | (k_unfold; (try dsimp only)) | (k_end; wrow_close) | ((fail_if_success (with_reducible show wpAny _ _ (PySem.eval (Expr.ListComp _ _ _ _) _) _ _ _)); (fail_if_success (with_reducible show wpAny _ _ (PySem.exec (Stmt.Assign _ (Expr.ListComp _ _ _ _) _) _) _ _ _)); (fail_if_success (with_reducible show wpAny _ _ (PySem.call (Value.ref 116) _) _ _ _)); (fail_if_success (with_reducible show LCg.CompSrc _ _ _ _ _ _ _ _ _ _ _ _ _ _)); (fail_if_success (with_reducible show LCt.CompSrcT _ _ _ _ _ _ _ _ _ _ _ _ _ _ _)); (((fail_if_success (with_reducible show wpAny _ _ (PySem.exec (Stmt.While _ _ _ _) _) _ _ _)); (fail_if_success (with_reducible show wpAny _ _ (PySem.exec (Stmt.For _ _ _ _ _) _) _ _ _)); (fail_if_success (with_reducible show wpAny _ _ (pyIter (Value.ref _)) (fun it s₂ => LoopAtV _ _ _ _ _ _ _ _ _ it s₂) _ _)); (fail_if_success (with_reducible show wpAny _ _ (pyIter (Value.ref _)) (fun it s₂ => PairAt3 _ _ _ _ _ _ _ _ _ _ it s₂) _ _)))); first | walk1 | (dsimp only; walk1)) | (leave1; walk_say "STEP leave1"; try dsimp only) | fail "no step"))
              have hnb : ∀ b : Int, Builtin.Range.rangeSize 1 b 1 = (((b - 1).toNat : Nat) : Int) := fun b => rangeSize_nat 1 b
              (k_dflt (refine LCt.CompSrcT.range (by rfl) (by k_asm) (by k_asm) (by assumption) (small_one (by decide) (by decide) (by omega) (by omega)) (hnb _) (by rw [PySem.sizeLine_eq]; omega) ?_))
              intro g'
              (refine' kci_range (gapG (greedyL (r2 + (i : Int)))) (fun k' t' I' oI' C' oC' D' m' ys' l' h' tk' E' hlo' hhi' hI' hC' hx' F' N' off' ne' => ?_) ?_ (gapG_grows _))
              · intro mk'
                clear ne'
                (repeat' (first | (k_unfold; (try dsimp only)) | (k_end; wrow_close) | ((fail_if_success (with_reducible show wpAny _ _ (PySem.eval (Expr.ListComp _ _ _ _) _) _ _ _)); (fail_if_success (with_reducible show wpAny _ _ (PySem.exec (Stmt.Assign _ (Expr.ListComp _ _ _ _) _) _) _ _ _)); (fail_if_success (with_reducible show wpAny _ _ (PySem.call (Value.ref _) _) _ _ _)); (fail_if_success (with_reducible show LCg.CompSrc _ _ _ _ _ _ _ _ _ _ _ _ _ _)); (fail_if_success (with_reducible show LCt.CompSrcT _ _ _ _ _ _ _ _ _ _ _ _ _ _ _)); (((fail_if_success (with_reducible show wpAny _ _ (PySem.exec (Stmt.While _ _ _ _) _) _ _ _)); (fail_if_success (with_reducible show wpAny _ _ (PySem.exec (Stmt.For _ _ _ _ _) _) _ _ _)); (fail_if_success (with_reducible show wpAny _ _ (pyIter (Value.ref _)) (fun it s₂ => LoopAtV _ _ _ _ _ _ _ _ _ it s₂) _ _)); (fail_if_success (with_reducible show wpAny _ _ (pyIter (Value.ref _)) (fun it s₂ => PairAt3 _ _ _ _ _ _ _ _ _ _ it s₂) _ _)))); first | walk1 | (dsimp only; walk1)) | (leave1; walk_say "STEP leave1"; try dsimp only) | fail "no step"))
                · (rename Fr _ _ _ _ => fE'; rename News _ _ _ _ => nE'; exact gp_yes fE' nE' (by k_memK) (by k_memK) (by k_memK) (by intro p9 h9; kst_mem) off' (by assumption))
                · (rename Fr _ _ _ _ => fE'; rename News _ _ _ _ => nE'; exact gp_no fE' nE' (by k_memK) (by k_memK) (by k_memK) (by intro p9 h9; kst_mem) off' (by assumption))
              · unfold KPfDone
                intro ys1 hy1 hl1
                rw [gap_none h40 (Int.lt_trans h46 (by decide))] at hy1
                intro D1 h1 tk1 F1 N1 o1
                (try simp only [LCg.Off1] at o1)
                (repeat' (first | (k_unfold; (try dsimp only)) | (k_end; wrow_close) | ((fail_if_success (with_reducible show wpAny _ _ (PySem.eval (Expr.ListComp _ _ _ _) _) _ _ _)); (fail_if_success (with_reducible show wpAny _ _ (PySem.exec (Stmt.Assign _ (Expr.ListComp _ _ _ _) _) _) _ _ _)); (fail_if_success (with_reducible show wpAny _ _ (PySem.call (Value.ref _) _) _ _ _)); (fail_if_success (with_reducible show LCg.CompSrc _ _ _ _ _ _ _ _ _ _ _ _ _ _)); (fail_if_success (with_reducible show LCt.CompSrcT _ _ _ _ _ _ _ _ _ _ _ _ _ _ _)); (((fail_if_success (with_reducible show wpAny _ _ (PySem.exec (Stmt.While _ _ _ _) _) _ _ _)); (fail_if_success (with_reducible show wpAny _ _ (PySem.exec (Stmt.For _ _ _ _ _) _) _ _ _)); (fail_if_success (with_reducible show wpAny _ _ (pyIter (Value.ref _)) (fun it s₂ => LoopAtV _ _ _ _ _ _ _ _ _ it s₂) _ _)); (fail_if_success (with_reducible show wpAny _ _ (pyIter (Value.ref _)) (fun it s₂ => PairAt3 _ _ _ _ _ _ _ _ _ _ it s₂) _ _)))); first | walk1 | (dsimp only; walk1)) | (leave1; walk_say "STEP leave1"; try dsimp only) | fail "no step"))
                ((refine keeps_use (d := _) more_ok (by k_asm) (by k_asm) (by k_asm) (by k_asm) (by k_asm) (by first | exact rfl | assumption) (by exact ⟨_, (by exact rfl), _, _, _, (by exact rfl), by k_memK, by assumption⟩) (by exact ⟨Nat.lt_trans hgl (by decide), hgs.2⟩) (by first | ((simp only [moreC, depth_deeper, depth_in1, depth_under_make, depth_under_kw]); (try dsimp only [ktrTop]); omega) | decide +kernel) (by first | ((simp only [moreC, units_deeper, units_in1, Around.mark_units]); (try dsimp only [ktrTop]); omega) | decide +kernel) ?_); (intro r9 tl9 h9 tk9 F' N' hl9 ho9); (obtain ⟨a9, us9, k9, e1, e2, xs9, hi9, hp9, hw9⟩ := ho9); (subst e1; subst e2); (simp only [List.cons_append, List.nil_append] at N'); (have l1 := lt_of_one hl9); (try simp only [AllLt, and_true] at l1); (clear hl9))
                have hgn := gr_next (n := r2 + (i : Int)) h40 h46 hp9 hw9
                (repeat' (first | (k_unfold; (try dsimp only)) | (k_end; wrow_close) | ((fail_if_success (with_reducible show wpAny _ _ (PySem.eval (Expr.ListComp _ _ _ _) _) _ _ _)); (fail_if_success (with_reducible show wpAny _ _ (PySem.exec (Stmt.Assign _ (Expr.ListComp _ _ _ _) _) _) _ _ _)); (fail_if_success (with_reducible show wpAny _ _ (PySem.call (Value.ref _) _) _ _ _)); (fail_if_success (with_reducible show LCg.CompSrc _ _ _ _ _ _ _ _ _ _ _ _ _ _)); (fail_if_success (with_reducible show LCt.CompSrcT _ _ _ _ _ _ _ _ _ _ _ _ _ _ _)); (((fail_if_success (with_reducible show wpAny _ _ (PySem.exec (Stmt.While _ _ _ _) _) _ _ _)); (fail_if_success (with_reducible show wpAny _ _ (PySem.exec (Stmt.For _ _ _ _ _) _) _ _ _)); (fail_if_success (with_reducible show wpAny _ _ (pyIter (Value.ref _)) (fun it s₂ => LoopAtV _ _ _ _ _ _ _ _ _ it s₂) _ _)); (fail_if_success (with_reducible show wpAny _ _ (pyIter (Value.ref _)) (fun it s₂ => PairAt3 _ _ _ _ _ _ _ _ _ _ it s₂) _ _)))); first | walk1 | (dsimp only; walk1)) | (leave1; walk_say "STEP leave1"; try dsimp only) | fail "no step"))
                (rename Fr _ _ _ _ => F5)
                (rename News _ _ _ _ => N5)
                refine store_turn F5 N5 rfl rfl rfl q1 (fun v h => nomatch h) (fun v h => nomatch h) (fun v h => nomatch h) (fun v h => nomatch h) (Nat.ne_of_lt (Nat.lt_succ_self _)) hal hoc ?_
                intro hS oS FS NS hdS
                (repeat' (first | (k_unfold; (try dsimp only)) | (k_end; wrow_close) | ((fail_if_success (with_reducible show wpAny _ _ (PySem.eval (Expr.ListComp _ _ _ _) _) _ _ _)); (fail_if_success (with_reducible show wpAny _ _ (PySem.exec (Stmt.Assign _ (Expr.ListComp _ _ _ _) _) _) _ _ _)); (fail_if_success (with_reducible show wpAny _ _ (PySem.call (Value.ref _) _) _ _ _)); (fail_if_success (with_reducible show LCg.CompSrc _ _ _ _ _ _ _ _ _ _ _ _ _ _)); (fail_if_success (with_reducible show LCt.CompSrcT _ _ _ _ _ _ _ _ _ _ _ _ _ _ _)); (((fail_if_success (with_reducible show wpAny _ _ (PySem.exec (Stmt.While _ _ _ _) _) _ _ _)); (fail_if_success (with_reducible show wpAny _ _ (PySem.exec (Stmt.For _ _ _ _ _) _) _ _ _)); (fail_if_success (with_reducible show wpAny _ _ (pyIter (Value.ref _)) (fun it s₂ => LoopAtV _ _ _ _ _ _ _ _ _ it s₂) _ _)); (fail_if_success (with_reducible show wpAny _ _ (pyIter (Value.ref _)) (fun it s₂ => PairAt3 _ _ _ _ _ _ _ _ _ _ it s₂) _ _)))); first | walk1 | (dsimp only; walk1)) | (leave1; walk_say "STEP leave1"; try dsimp only) | fail "no step"))
                (try dsimp only [TurnP])
                (rename Fr _ _ _ _ => fE'; rename News _ _ _ _ => nE')
                exact tu_end fE' nE' hdS hi9 hgn (by omega) (by intro z hz; simp [hz])
            · rintro ⟨a, us, k, o⟩ u h tk2 ⟨q1, q2, q3⟩ kFr kNews
              (try dsimp only [kstB] at kFr); (try dsimp only [tuDyn] at kNews); (try simp only [List.cons_append, List.nil_append] at kNews); dsimp only at q1 q2 q3
              (repeat' (first | (k_unfold; (try dsimp only)) | (k_end; wrow_close) | ((fail_if_success (with_reducible show wpAny _ _ (PySem.eval (Expr.ListComp _ _ _ _) _) _ _ _)); (fail_if_success (with_reducible show wpAny _ _ (PySem.exec (Stmt.Assign _ (Expr.ListComp _ _ _ _) _) _) _ _ _)); (fail_if_success (with_reducible show wpAny _ _ (PySem.call (Value.ref _) _) _ _ _)); (fail_if_success (with_reducible show LCg.CompSrc _ _ _ _ _ _ _ _ _ _ _ _ _ _)); (fail_if_success (with_reducible show LCt.CompSrcT _ _ _ _ _ _ _ _ _ _ _ _ _ _ _)); (((fail_if_success (with_reducible show wpAny _ _ (PySem.exec (Stmt.While _ _ _ _) _) _ _ _)); (fail_if_success (with_reducible show wpAny _ _ (PySem.exec (Stmt.For _ _ _ _ _) _) _ _ _)); (fail_if_success (with_reducible show wpAny _ _ (pyIter (Value.ref _)) (fun it s₂ => LoopAtV _ _ _ _ _ _ _ _ _ it s₂) _ _)); (fail_if_success (with_reducible show wpAny _ _ (pyIter (Value.ref _)) (fun it s₂ => PairAt3 _ _ _ _ _ _ _ _ _ _ it s₂) _ _)))); first | walk1 | (dsimp only; walk1)) | (leave1; walk_say "STEP leave1"; try dsimp only) | fail "no step"))
              (rename Fr _ _ _ _ => F5)
              (rename News _ _ _ _ => N5)
              (refine bred_use (many := 5) F5 (hu_first N5) (by k_asm) (by k_asm) (by k_asm) (by first | exact rfl | assumption) (by k_memK) (by assumption) (by rw [List.length_map, List.length_take]; omega) (by omega) (by omega) (by omega) (by omega) (by repeat' (first | exact off_nil | assumption | refine off_cons ?_ ?_ | (dsimp only; omega))) (by first | ((simp only [depth_deeper, depth_in1, depth_under_make, depth_under_kw]); (try dsimp only [ktrTop]); omega) | decide +kernel) (by first | ((simp only [units_deeper, units_in1, Around.mark_units]); (try dsimp only [ktrTop]); omega) | decide +kernel) ?cont)
              case cont =>
                intro r4 t4 h4 tk7 tk8 c4 hr7 hr8 F6 N6
                have N7 := hu_back N6
                clear N6 N5 F5
                (repeat' (first | (k_unfold; (try dsimp only)) | (k_end; wrow_close) | ((fail_if_success (with_reducible show wpAny _ _ (PySem.eval (Expr.ListComp _ _ _ _) _) _ _ _)); (fail_if_success (with_reducible show wpAny _ _ (PySem.exec (Stmt.Assign _ (Expr.ListComp _ _ _ _) _) _) _ _ _)); (fail_if_success (with_reducible show wpAny _ _ (PySem.call (Value.ref _) _) _ _ _)); (fail_if_success (with_reducible show LCg.CompSrc _ _ _ _ _ _ _ _ _ _ _ _ _ _)); (fail_if_success (with_reducible show LCt.CompSrcT _ _ _ _ _ _ _ _ _ _ _ _ _ _ _)); (((fail_if_success (with_reducible show wpAny _ _ (PySem.exec (Stmt.While _ _ _ _) _) _ _ _)); (fail_if_success (with_reducible show wpAny _ _ (PySem.exec (Stmt.For _ _ _ _ _) _) _ _ _)); (fail_if_success (with_reducible show wpAny _ _ (pyIter (Value.ref _)) (fun it s₂ => LoopAtV _ _ _ _ _ _ _ _ _ it s₂) _ _)); (fail_if_success (with_reducible show wpAny _ _ (pyIter (Value.ref _)) (fun it s₂ => PairAt3 _ _ _ _ _ _ _ _ _ _ it s₂) _ _)))); first | walk1 | (dsimp only; walk1)) | (leave1; walk_say "STEP leave1"; try dsimp only) | fail "no step"))
                ((refine keeps_use (d := _) lots_ok (by k_asm) (by k_asm) (by k_asm) (by k_asm) (by k_asm) (by first | exact rfl | assumption) (by exact ⟨_, (by exact rfl)⟩) (by exact ⟨by omega, by omega⟩) (by first | ((simp only [lotsC, depth_deeper, depth_in1, depth_under_make, depth_under_kw]); (try dsimp only [ktrTop]); omega) | decide +kernel) (by first | ((simp only [lotsC, units_deeper, units_in1, Around.mark_units]); (try dsimp only [ktrTop]); omega) | decide +kernel) ?_); (intro r9 tl9 h9 tk9 F' N' hl9 ho9); (obtain ⟨a9, rs9, k9, led9, e1, e2, hl9a, hl9b⟩ := ho9); (subst e1; subst e2); (simp only [List.cons_append, List.nil_append] at N'); (clear hl9))
                have N8 := lots_news N'
                clear N'
                have hLL : ((rs9.length : Nat) : Int) = fibZ (3 + r4).toNat := by rw [hl9b]; exact lots_len hr7 hr8
                have hLs : rs9.length ≤ 13 := by rw [hl9b]; exact (lots_small ⟨(3 + r4 - 2).toNat, by omega⟩).1
                (repeat' (first | (k_unfold; (try dsimp only)) | (k_end; wrow_close) | ((((fail_if_success (with_reducible show wpAny _ _ (PySem.call (Value.builtin "len") [Value.ref _]) _ _ _)); (fail_if_success (with_reducible show wpAny _ _ (subscriptTail _ _ (Value.ref _) (Value.int _ _)) _ _ _)); (fail_if_success (with_reducible show wpAny _ _ (PySem.call (Value.ref _) _) _ _ _)); (((fail_if_success (with_reducible show wpAny _ _ (PySem.exec (Stmt.While _ _ _ _) _) _ _ _)); (fail_if_success (with_reducible show wpAny _ _ (PySem.exec (Stmt.For _ _ _ _ _) _) _ _ _)); (fail_if_success (with_reducible show wpAny _ _ (pyIter (Value.ref _)) (fun it s₂ => LoopAtV _ _ _ _ _ _ _ _ _ it s₂) _ _)); (fail_if_success (with_reducible show wpAny _ _ (pyIter (Value.ref _)) (fun it s₂ => PairAt3 _ _ _ _ _ _ _ _ _ _ it s₂) _ _)))))); first | walk1 | (dsimp only; walk1)) | (leave1; walk_say "STEP leave1"; try dsimp only) | fail "no step"))
                (k_dflt (refine kst_len (k := rs9.length) (by k_asm) (by k_memK) rfl (by omega) ?_))
                (repeat' (first | (k_unfold; (try dsimp only)) | (k_end; wrow_close) | ((((fail_if_success (with_reducible show wpAny _ _ (PySem.call (Value.builtin "len") [Value.ref _]) _ _ _)); (fail_if_success (with_reducible show wpAny _ _ (subscriptTail _ _ (Value.ref _) (Value.int _ _)) _ _ _)); (fail_if_success (with_reducible show wpAny _ _ (PySem.call (Value.ref _) _) _ _ _)); (((fail_if_success (with_reducible show wpAny _ _ (PySem.exec (Stmt.While _ _ _ _) _) _ _ _)); (fail_if_success (with_reducible show wpAny _ _ (PySem.exec (Stmt.For _ _ _ _ _) _) _ _ _)); (fail_if_success (with_reducible show wpAny _ _ (pyIter (Value.ref _)) (fun it s₂ => LoopAtV _ _ _ _ _ _ _ _ _ it s₂) _ _)); (fail_if_success (with_reducible show wpAny _ _ (pyIter (Value.ref _)) (fun it s₂ => PairAt3 _ _ _ _ _ _ _ _ _ _ it s₂) _ _)))))); first | walk1 | (dsimp only; walk1)) | (leave1; walk_say "STEP leave1"; try dsimp only) | fail "no step"))
                have hB := base_ge (w := 3 + r1) (by omega)
                ((refine keeps_use (d := ⟨_, _⟩) limbs_ok (by k_asm) (by k_asm) (by k_asm) (by k_asm) (by k_asm) (by first | exact rfl | assumption) (by exact ⟨_, _, (by exact rfl)⟩) (by exact ⟨(show (3:Int) ≤ 3 + r1 by omega), (show 3 + r1 ≤ (8:Int) by omega), (show (0:Int) ≤ ((rs9.length : Nat) : Int) by omega), (show ((rs9.length : Nat) : Int) < 500 by omega)⟩) (by first | ((simp only [limbsC, depth_deeper, depth_in1, depth_under_make, depth_under_kw]); (try dsimp only [ktrTop]); omega) | decide +kernel) (by first | ((simp only [limbsC, units_deeper, units_in1, Around.mark_units]); (try dsimp only [ktrTop]); omega) | decide +kernel) ?_); (intro r9 tl9 h9 tk9 F' N' hl9 ho9); (obtain ⟨a9, us9, k9, xs9, e1, e2, hi9, hg9⟩ := ho9); (subst e1; subst e2); (simp only [List.cons_append, List.nil_append] at N'); (have l1 := lt_of_one hl9); (try simp only [AllLt, and_true] at l1); (clear hl9); (try dsimp only at hg9); (have hL9 := hg9.1))
                have hgL : Dg (2 ^ (3 + r1).toNat) xs9 ((rs9.length : Nat) : Int) := hg9
                clear hg9
                rw [hLL] at hgL
                (repeat' (first | (k_unfold; (try dsimp only)) | (k_end; wrow_close) | ((((fail_if_success (with_reducible show wpAny _ _ (PySem.call (Value.builtin "len") [Value.ref _]) _ _ _)); (fail_if_success (with_reducible show wpAny _ _ (subscriptTail _ _ (Value.ref _) (Value.int _ _)) _ _ _)); (fail_if_success (with_reducible show wpAny _ _ (PySem.call (Value.ref _) _) _ _ _)); (((fail_if_success (with_reducible show wpAny _ _ (PySem.exec (Stmt.While _ _ _ _) _) _ _ _)); (fail_if_success (with_reducible show wpAny _ _ (PySem.exec (Stmt.For _ _ _ _ _) _) _ _ _)); (fail_if_success (with_reducible show wpAny _ _ (pyIter (Value.ref _)) (fun it s₂ => LoopAtV _ _ _ _ _ _ _ _ _ it s₂) _ _)); (fail_if_success (with_reducible show wpAny _ _ (pyIter (Value.ref _)) (fun it s₂ => PairAt3 _ _ _ _ _ _ _ _ _ _ it s₂) _ _)))))); first | walk1 | (dsimp only; walk1)) | (leave1; walk_say "STEP leave1"; try dsimp only) | fail "no step"))
                (with_unfolding_all refine' sub_told (by k_asm) hT.2 (by intro p9 h9; kst_mem) hT.1 (by k_memK) (by omega) (by omega) ?_ (by with_unfolding_all rfl))
                intro a7 us7 kk7 xs7 N7 hi7 hg7
                have e79 := Dg.inj (by omega) hgL hg7
                subst e79
                (repeat' (first | (k_unfold; (try dsimp only)) | (k_end; wrow_close) | ((((fail_if_success (with_reducible show wpAny _ _ (PySem.call (Value.builtin "len") [Value.ref _]) _ _ _)); (fail_if_success (with_reducible show wpAny _ _ (subscriptTail _ _ (Value.ref _) (Value.int _ _)) _ _ _)); (fail_if_success (with_reducible show wpAny _ _ (PySem.call (Value.ref _) _) _ _ _)); (((fail_if_success (with_reducible show wpAny _ _ (PySem.exec (Stmt.While _ _ _ _) _) _ _ _)); (fail_if_success (with_reducible show wpAny _ _ (PySem.exec (Stmt.For _ _ _ _ _) _) _ _ _)); (fail_if_success (with_reducible show wpAny _ _ (pyIter (Value.ref _)) (fun it s₂ => LoopAtV _ _ _ _ _ _ _ _ _ it s₂) _ _)); (fail_if_success (with_reducible show wpAny _ _ (pyIter (Value.ref _)) (fun it s₂ => PairAt3 _ _ _ _ _ _ _ _ _ _ it s₂) _ _)))))); first | walk1 | (dsimp only; walk1)) | (leave1; walk_say "STEP leave1"; try dsimp only) | fail "no step"))
                walk_at "for"
                (repeat' (first | (k_unfold; (try dsimp only)) | (k_end; wrow_close) | ((((fail_if_success (with_reducible show wpAny _ _ (PySem.call (Value.builtin "len") [Value.ref _]) _ _ _)); (fail_if_success (with_reducible show wpAny _ _ (subscriptTail _ _ (Value.ref _) (Value.int _ _)) _ _ _)); (fail_if_success (with_reducible show wpAny _ _ (PySem.call (Value.ref _) _) _ _ _)); (((fail_if_success (with_reducible show wpAny _ _ (PySem.exec (Stmt.While _ _ _ _) _) _ _ _)); (fail_if_success (with_reducible show wpAny _ _ (PySem.exec (Stmt.For _ _ _ _ _) _) _ _ _)); (fail_if_success (with_reducible show wpAny _ _ (pyIter (Value.ref _)) (fun it s₂ => LoopAtV _ _ _ _ _ _ _ _ _ it s₂) _ _)); (fail_if_success (with_reducible show wpAny _ _ (pyIter (Value.ref _)) (fun it s₂ => PairAt3 _ _ _ _ _ _ _ _ _ _ it s₂) _ _)))))); first | walk1 | (dsimp only; walk1)) | (leave1; walk_say "STEP leave1"; try dsimp only) | fail "no step"))
                (k_dflt (refine kst_len (k := rs9.length) (by k_asm) (by k_memK) rfl (by omega) ?_))
                (repeat' (first | (k_unfold; (try dsimp only)) | (k_end; wrow_close) | ((((fail_if_success (with_reducible show wpAny _ _ (PySem.call (Value.builtin "len") [Value.ref _]) _ _ _)); (fail_if_success (with_reducible show wpAny _ _ (subscriptTail _ _ (Value.ref _) (Value.int _ _)) _ _ _)); (fail_if_success (with_reducible show wpAny _ _ (PySem.call (Value.ref _) _) _ _ _)); (((fail_if_success (with_reducible show wpAny _ _ (PySem.exec (Stmt.While _ _ _ _) _) _ _ _)); (fail_if_success (with_reducible show wpAny _ _ (PySem.exec (Stmt.For _ _ _ _ _) _) _ _ _)); (fail_if_success (with_reducible show wpAny _ _ (pyIter (Value.ref _)) (fun it s₂ => LoopAtV _ _ _ _ _ _ _ _ _ it s₂) _ _)); (fail_if_success (with_reducible show wpAny _ _ (pyIter (Value.ref _)) (fun it s₂ => PairAt3 _ _ _ _ _ _ _ _ _ _ it s₂) _ _)))))); first | walk1 | (dsimp only; walk1)) | (leave1; walk_say "STEP leave1"; try dsimp only) | fail "no step"))
                (rename Fr _ _ _ _ => F8)
                (rename News _ _ _ _ => N9)
                (rename IsRange _ _ _ _ _ _ _ _ => rg2)
                (with_unfolding_all refine' for_range2 (σ := Unit) (n := rs9.length) (fun _ => []) _ (fun _ => []) [Str.ofString "whole", Str.ofString "place"] (fun i => (i : Int)) (fun _ _ => True) () ?hkf rfl rg2 ?hsm ?hsz F8 N9 ?hk trivial ?hc ?_ ?_)
                case hkf => (intro i hi; omega)
                case hsm => exact small_one (by decide) (by decide) (by omega) (by omega)
                case hsz => (rw [rangeSize_nat]; congr 1)
                case hk => exact fun p hp => nomatch hp
                case hc => exact fun _ _ _ p hp => nomatch hp
                · rintro ⟨⟩ i t u h tk2 own hi _ _ kFr kNews
                  (try dsimp only [kstB] at kFr); (try simp only [List.cons_append, List.nil_append] at kNews)
                  (with_reducible show wpAny _ _ _ _ _ _)
                  k_fold
                  (repeat' (first | (k_unfold; (try dsimp only)) | (k_end; wrow_close) | ((((fail_if_success (with_reducible show wpAny _ _ (PySem.call (Value.builtin "len") [Value.ref _]) _ _ _)); (fail_if_success (with_reducible show wpAny _ _ (subscriptTail _ _ (Value.ref _) (Value.int _ _)) _ _ _)); (fail_if_success (with_reducible show wpAny _ _ (PySem.call (Value.ref _) _) _ _ _)); (((fail_if_success (with_reducible show wpAny _ _ (PySem.exec (Stmt.While _ _ _ _) _) _ _ _)); (fail_if_success (with_reducible show wpAny _ _ (PySem.exec (Stmt.For _ _ _ _ _) _) _ _ _)); (fail_if_success (with_reducible show wpAny _ _ (pyIter (Value.ref _)) (fun it s₂ => LoopAtV _ _ _ _ _ _ _ _ _ it s₂) _ _)); (fail_if_success (with_reducible show wpAny _ _ (pyIter (Value.ref _)) (fun it s₂ => PairAt3 _ _ _ _ _ _ _ _ _ _ it s₂) _ _)))))); first | walk1 | (dsimp only; walk1)) | (leave1; walk_say "STEP leave1"; try dsimp only) | fail "no step"))
                  walk_at "for"
                  (repeat' (first | (k_unfold; (try dsimp only)) | (k_end; wrow_close) | ((((fail_if_success (with_reducible show wpAny _ _ (PySem.call (Value.builtin "len") [Value.ref _]) _ _ _)); (fail_if_success (with_reducible show wpAny _ _ (subscriptTail _ _ (Value.ref _) (Value.int _ _)) _ _ _)); (fail_if_success (with_reducible show wpAny _ _ (PySem.call (Value.ref _) _) _ _ _)); (((fail_if_success (with_reducible show wpAny _ _ (PySem.exec (Stmt.While _ _ _ _) _) _ _ _)); (fail_if_success (with_reducible show wpAny _ _ (PySem.exec (Stmt.For _ _ _ _ _) _) _ _ _)); (fail_if_success (with_reducible show wpAny _ _ (pyIter (Value.ref _)) (fun it s₂ => LoopAtV _ _ _ _ _ _ _ _ _ it s₂) _ _)); (fail_if_success (with_reducible show wpAny _ _ (pyIter (Value.ref _)) (fun it s₂ => PairAt3 _ _ _ _ _ _ _ _ _ _ it s₂) _ _)))))); first | walk1 | (dsimp only; walk1)) | (leave1; walk_say "STEP leave1"; try dsimp only) | fail "no step"))
                  (with_unfolding_all refine' sub_lot (by k_asm) hl9a hl9b (by intro p9 h9; first | kst_mem | simp [h9]) (by k_memK) (hl9b ▸ hi) (by omega) ?_ (by with_unfolding_all rfl))
                  intro a6 us6 kk6 xs6 N6 hi6 hx6
                  obtain ⟨hs6, hp6, hj6, hl6, hi13⟩ := lot_facts (by omega) hx6
                  (repeat' (first | (k_unfold; (try dsimp only)) | (k_end; wrow_close) | ((((fail_if_success (with_reducible show wpAny _ _ (PySem.call (Value.builtin "len") [Value.ref _]) _ _ _)); (fail_if_success (with_reducible show wpAny _ _ (subscriptTail _ _ (Value.ref _) (Value.int _ _)) _ _ _)); (fail_if_success (with_reducible show wpAny _ _ (PySem.call (Value.ref _) _) _ _ _)); (((fail_if_success (with_reducible show wpAny _ _ (PySem.exec (Stmt.While _ _ _ _) _) _ _ _)); (fail_if_success (with_reducible show wpAny _ _ (PySem.exec (Stmt.For _ _ _ _ _) _) _ _ _)); (fail_if_success (with_reducible show wpAny _ _ (pyIter (Value.ref _)) (fun it s₂ => LoopAtV _ _ _ _ _ _ _ _ _ it s₂) _ _)); (fail_if_success (with_reducible show wpAny _ _ (pyIter (Value.ref _)) (fun it s₂ => PairAt3 _ _ _ _ _ _ _ _ _ _ it s₂) _ _)))))); first | walk1 | (dsimp only; walk1)) | (leave1; walk_say "STEP leave1"; try dsimp only) | fail "no step"))
                  (rename Fr _ _ _ _ => F8)
                  (with_unfolding_all refine' for_ints (σ := WhS) whDyn _ whPs [] (WhInv (3 + r1) xs6) ⟨_, [], 0, []⟩ rfl ?hl hi6 F8 (news_swap N6) ?hk ?hp wh_dyn ?_ ?_)
                  case hl => exact .head _
                  case hk => (intro p hp; rw [List.mem_singleton.mp hp]; with_unfolding_all rfl)
                  case hp => exact ⟨.nil, by rw [List.take_zero]; exact Dg.nil _⟩
                  · rintro ⟨aw, usw, kw, xsw⟩ i2 n2 tn u h tk2 own hin ⟨q1, q2⟩ kFr kNews
                    have hnp := hp6 n2 (List.mem_of_getElem? hin)
                    have hb0 := hj6 i2
                    have hb1 := fib_lt (⟨n2.toNat, by omega⟩ : Fin 11)
                    dsimp only at hb1
                    (try dsimp only [kstB, whPs] at kFr); (try dsimp only [whDyn] at kNews); (try simp only [List.cons_append, List.nil_append] at kNews); dsimp only at q1 q2
                    (with_reducible show wpAny _ _ _ _ _ _)
                    k_fold
                    (repeat' (first | (k_unfold; (try dsimp only)) | (k_end; wrow_close) | ((((fail_if_success (with_reducible show wpAny _ _ (PySem.call (Value.builtin "len") [Value.ref _]) _ _ _)); (fail_if_success (with_reducible show wpAny _ _ (subscriptTail _ _ (Value.ref _) (Value.int _ _)) _ _ _)); (fail_if_success (with_reducible show wpAny _ _ (PySem.call (Value.ref _) _) _ _ _)); (((fail_if_success (with_reducible show wpAny _ _ (PySem.exec (Stmt.While _ _ _ _) _) _ _ _)); (fail_if_success (with_reducible show wpAny _ _ (PySem.exec (Stmt.For _ _ _ _ _) _) _ _ _)); (fail_if_success (with_reducible show wpAny _ _ (pyIter (Value.ref _)) (fun it s₂ => LoopAtV _ _ _ _ _ _ _ _ _ it s₂) _ _)); (fail_if_success (with_reducible show wpAny _ _ (pyIter (Value.ref _)) (fun it s₂ => PairAt3 _ _ _ _ _ _ _ _ _ _ it s₂) _ _)))))); first | walk1 | (dsimp only; walk1)) | (leave1; walk_say "STEP leave1"; try dsimp only) | fail "no step"))
                    (with_unfolding_all refine' sub_told (by k_asm) hT.2 (by intro p9 h9; first | kst_mem | simp [h9]) hT.1 (by k_memK) (by omega) (by omega) ?_ (by with_unfolding_all rfl))
                    intro a7 us7 kk7 xs7 N7 hi7 hg7
                    (repeat' (first | (k_unfold; (try dsimp only)) | (k_end; wrow_close) | ((((fail_if_success (with_reducible show wpAny _ _ (PySem.call (Value.builtin "len") [Value.ref _]) _ _ _)); (fail_if_success (with_reducible show wpAny _ _ (subscriptTail _ _ (Value.ref _) (Value.int _ _)) _ _ _)); (fail_if_success (with_reducible show wpAny _ _ (PySem.call (Value.ref _) _) _ _ _)); (((fail_if_success (with_reducible show wpAny _ _ (PySem.exec (Stmt.While _ _ _ _) _) _ _ _)); (fail_if_success (with_reducible show wpAny _ _ (PySem.exec (Stmt.For _ _ _ _ _) _) _ _ _)); (fail_if_success (with_reducible show wpAny _ _ (pyIter (Value.ref _)) (fun it s₂ => LoopAtV _ _ _ _ _ _ _ _ _ it s₂) _ _)); (fail_if_success (with_reducible show wpAny _ _ (pyIter (Value.ref _)) (fun it s₂ => PairAt3 _ _ _ _ _ _ _ _ _ _ it s₂) _ _)))))); first | walk1 | (dsimp only; walk1)) | (leave1; walk_say "STEP leave1"; try dsimp only) | fail "no step"))
                    ((refine' keeps_use (d := ⟨_, _, _⟩) add_ok ?k1 ?k2 ?k3 ?k4 ?k5 ?kK ?kR ?ko ?kd ?ku ?_); (case k1 => k_asm); (case k2 => k_asm); (case k3 => k_asm); (case k4 => k_asm); (case k5 => k_asm); (case kK => first | exact rfl | assumption); (case kR => exact ⟨_, _, _, (by exact rfl), ⟨_, _, _, _, (by exact rfl), by k_memK, by assumption, by assumption⟩, ⟨_, _, _, _, (by exact rfl), by k_memK, by assumption, by assumption⟩⟩); (case ko => exact ⟨(show (3:Int) ≤ 3 + r1 by omega), (show 3 + r1 ≤ (8:Int) by omega), (show sumF (xs6.take i2) < 500 by omega), (show fibZ n2.toNat < 500 by omega)⟩); (case kd => first | ((simp only [addC, depth_deeper, depth_in1, depth_under_make, depth_under_kw]); (try dsimp only [ktrTop]); omega) | decide +kernel); (case ku => first | ((simp only [addC, units_deeper, units_in1, Around.mark_units]); (try dsimp only [ktrTop]); omega) | decide +kernel); (intro r9 tl9 h9 tk9 F' N' hl9 ho9); (obtain ⟨a9, us9, k9, xs9, e1, e2, hi9, hg9⟩ := ho9); (subst e1; subst e2); (simp only [List.cons_append, List.nil_append] at N'); (have l1 := lt_of_one hl9); (try simp only [AllLt, and_true] at l1); (clear hl9); (try dsimp only at hg9); (have hL9 := hg9.1))
                    (repeat' (first | (k_unfold; (try dsimp only)) | (k_end; wrow_close) | ((((fail_if_success (with_reducible show wpAny _ _ (PySem.call (Value.builtin "len") [Value.ref _]) _ _ _)); (fail_if_success (with_reducible show wpAny _ _ (subscriptTail _ _ (Value.ref _) (Value.int _ _)) _ _ _)); (fail_if_success (with_reducible show wpAny _ _ (PySem.call (Value.ref _) _) _ _ _)); (((fail_if_success (with_reducible show wpAny _ _ (PySem.exec (Stmt.While _ _ _ _) _) _ _ _)); (fail_if_success (with_reducible show wpAny _ _ (PySem.exec (Stmt.For _ _ _ _ _) _) _ _ _)); (fail_if_success (with_reducible show wpAny _ _ (pyIter (Value.ref _)) (fun it s₂ => LoopAtV _ _ _ _ _ _ _ _ _ it s₂) _ _)); (fail_if_success (with_reducible show wpAny _ _ (pyIter (Value.ref _)) (fun it s₂ => PairAt3 _ _ _ _ _ _ _ _ _ _ it s₂) _ _)))))); first | walk1 | (dsimp only; walk1)) | (leave1; walk_say "STEP leave1"; try dsimp only) | fail "no step"))
                    (try dsimp only [TurnP])
                    (rename Fr _ _ _ _ => fE'; rename News _ _ _ _ => nE')
                    exact wh_end fE' nE' (by with_unfolding_all rfl) (by k_memK) (by intro p9 h9; first | kst_mem | simp [h9]) (by intro p9 h9; first | kst_mem | simp [h9]) hi9 hin hg9 (by intro z h1 h2; simp [h1, h2])
                  · rintro ⟨aw, usw, kw, xsw⟩ u h tk2 ⟨q1, q2⟩ kFr kNews
                    (try dsimp only [kstB, whPs] at kFr); (try dsimp only [whDyn] at kNews); (try simp only [List.cons_append, List.nil_append] at kNews); dsimp only at q1 q2
                    rw [List.take_length, hs6] at q2
                    (repeat' (first | (k_unfold; (try dsimp only)) | (k_end; wrow_close) | ((((fail_if_success (with_reducible show wpAny _ _ (PySem.call (Value.builtin "len") [Value.ref _]) _ _ _)); (fail_if_success (with_reducible show wpAny _ _ (subscriptTail _ _ (Value.ref _) (Value.int _ _)) _ _ _)); (fail_if_success (with_reducible show wpAny _ _ (PySem.call (Value.ref _) _) _ _ _)); (((fail_if_success (with_reducible show wpAny _ _ (PySem.exec (Stmt.While _ _ _ _) _) _ _ _)); (fail_if_success (with_reducible show wpAny _ _ (PySem.exec (Stmt.For _ _ _ _ _) _) _ _ _)); (fail_if_success (with_reducible show wpAny _ _ (pyIter (Value.ref _)) (fun it s₂ => LoopAtV _ _ _ _ _ _ _ _ _ it s₂) _ _)); (fail_if_success (with_reducible show wpAny _ _ (pyIter (Value.ref _)) (fun it s₂ => PairAt3 _ _ _ _ _ _ _ _ _ _ it s₂) _ _)))))); first | walk1 | (dsimp only; walk1)) | (leave1; walk_say "STEP leave1"; try dsimp only) | fail "no step"))
                    ((refine keeps_use (d := ⟨_, _⟩) limbs_ok (by k_asm) (by k_asm) (by k_asm) (by k_asm) (by k_asm) (by first | exact rfl | assumption) (by exact ⟨_, _, (by exact rfl)⟩) (by exact ⟨(show (3:Int) ≤ 3 + r1 by omega), (show 3 + r1 ≤ (8:Int) by omega), (show (0:Int) ≤ ((i : Nat) : Int) by omega), (show ((i : Nat) : Int) < 500 by omega)⟩) (by first | ((simp only [limbsC, depth_deeper, depth_in1, depth_under_make, depth_under_kw]); (try dsimp only [ktrTop]); omega) | decide +kernel) (by first | ((simp only [limbsC, units_deeper, units_in1, Around.mark_units]); (try dsimp only [ktrTop]); omega) | decide +kernel) ?_); (intro r9 tl9 h9 tk9 F' N' hl9 ho9); (obtain ⟨a9, us9, k9, xs9, e1, e2, hi9, hg9⟩ := ho9); (subst e1; subst e2); (simp only [List.cons_append, List.nil_append] at N'); (have l1 := lt_of_one hl9); (try simp only [AllLt, and_true] at l1); (clear hl9); (try dsimp only at hg9); (have hL9 := hg9.1))
                    have hgL : Dg (2 ^ (3 + r1).toNat) xs9 ((i : Nat) : Int) := hg9
                    have e89 := Dg.inj (by omega) hgL q2
                    subst e89
                    (repeat' (first | (k_unfold; (try dsimp only)) | (k_end; wrow_close) | ((((fail_if_success (with_reducible show wpAny _ _ (PySem.call (Value.builtin "len") [Value.ref _]) _ _ _)); (fail_if_success (with_reducible show wpAny _ _ (subscriptTail _ _ (Value.ref _) (Value.int _ _)) _ _ _)); (fail_if_success (with_reducible show wpAny _ _ (PySem.call (Value.ref _) _) _ _ _)); (((fail_if_success (with_reducible show wpAny _ _ (PySem.exec (Stmt.While _ _ _ _) _) _ _ _)); (fail_if_success (with_reducible show wpAny _ _ (PySem.exec (Stmt.For _ _ _ _ _) _) _ _ _)); (fail_if_success (with_reducible show wpAny _ _ (pyIter (Value.ref _)) (fun it s₂ => LoopAtV _ _ _ _ _ _ _ _ _ it s₂) _ _)); (fail_if_success (with_reducible show wpAny _ _ (pyIter (Value.ref _)) (fun it s₂ => PairAt3 _ _ _ _ _ _ _ _ _ _ it s₂) _ _)))))); first | walk1 | (dsimp only; walk1)) | (leave1; walk_say "STEP leave1"; try dsimp only) | fail "no step"))
                    (try dsimp only [TurnP])
                    (rename Fr _ _ _ _ => fE'; rename News _ _ _ _ => nE')
                    exact out_end fE' nE' (by intro p9 h9; first | kst_mem | simp [h9]) (by intro p9 h9; first | kst_mem | simp [h9]) (by intro z h1 h2 h3; simp [h1, h2, h3])
                · rintro ⟨⟩ u h tk2 _ kFr kNews
                  (try dsimp only [kstB] at kFr); (try simp only [List.cons_append, List.nil_append] at kNews)
                  (repeat' (first | (k_unfold; (try dsimp only)) | (k_end; wrow_close) | ((((fail_if_success (with_reducible show wpAny _ _ (PySem.call (Value.builtin "len") [Value.ref _]) _ _ _)); (fail_if_success (with_reducible show wpAny _ _ (subscriptTail _ _ (Value.ref _) (Value.int _ _)) _ _ _)); (fail_if_success (with_reducible show wpAny _ _ (PySem.call (Value.ref _) _) _ _ _)); (((fail_if_success (with_reducible show wpAny _ _ (PySem.exec (Stmt.While _ _ _ _) _) _ _ _)); (fail_if_success (with_reducible show wpAny _ _ (PySem.exec (Stmt.For _ _ _ _ _) _) _ _ _)); (fail_if_success (with_reducible show wpAny _ _ (pyIter (Value.ref _)) (fun it s₂ => LoopAtV _ _ _ _ _ _ _ _ _ it s₂) _ _)); (fail_if_success (with_reducible show wpAny _ _ (pyIter (Value.ref _)) (fun it s₂ => PairAt3 _ _ _ _ _ _ _ _ _ _ it s₂) _ _)))))); first | walk1 | (dsimp only; walk1)) | (leave1; walk_say "STEP leave1"; try dsimp only) | fail "no step"))
end
end Mine
theorem PySem.Challenge.cw_xm0396_01_holds : PySem.Challenge.rw_xm0396_01.Holds := by
  exact Mine.law_holds
