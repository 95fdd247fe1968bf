import PyProof.Rows.All
import Wide.All
import OpenK.AllK
import Wide.FinOn
import Lean
import PySem.Challenge.RW_pq0550_01
set_option Elab.async false

namespace Mine
section PPlain
set_option maxRecDepth 100000
def val (b : Int) : List Int → Int
  | [] => 0
  | x :: r => x + b * val b r
def Lim (b : Int) (A : List Int) : Prop := ∀ x ∈ A, 0 ≤ x ∧ x < b
def Norm (A : List Int) : Prop := A.length = 0 ∨ A.getD (A.length - 1) 0 ≠ 0
def endZ (A : List Int) (e : Nat) : Prop := e ≤ A.length ∧ (∀ i, e ≤ i → i < A.length → A.getD i 0 = 0)

theorem val_append (b : Int) (A B : List Int) : val b (A ++ B) = val b A + b ^ A.length * val b B := by
  induction A with
  | nil => simp [val]
  | cons x r ih =>
    show x + b * val b (r ++ B) = _
    rw [ih, List.length_cons, Int.pow_succ]
    show _ = x + b * val b r + _
    grind
theorem val_zero (b : Int) : ∀ (A : List Int), (∀ i, i < A.length → A.getD i 0 = 0) → val b A = 0
  | [], _ => rfl
  | x :: r, h => by
    have h0 := h 0 (by simp)
    have hr := val_zero b r (fun i hi => by
      have := h (i + 1) (by simpa using hi)
      simpa using this)
    simp at h0
    show x + b * val b r = 0
    rw [hr, h0]; simp
theorem lim_take {b : Int} {A : List Int} (h : Lim b A) (e : Nat) : Lim b (A.take e) := fun x hx => h x (List.mem_of_mem_take hx)
theorem lim_drop {b : Int} {A : List Int} (h : Lim b A) (e : Nat) : Lim b (A.drop e) := fun x hx => h x (List.mem_of_mem_drop hx)
theorem lim_append {b : Int} {A B : List Int} (h : Lim b A) (k : Lim b B) : Lim b (A ++ B) := fun x hx => (List.mem_append.mp hx).elim (h x) (k x)
theorem lim_one {b x : Int} (h : 0 ≤ x) (k : x < b) : Lim b [x] := fun y hy => by rw [List.mem_singleton.mp hy]; exact ⟨h, k⟩
theorem lim_nil {b : Int} : Lim b [] := fun _ h => nomatch h

theorem norm_take {b : Int} {A R : List Int} (hL : Lim b A) (h : ∃ e, endZ A e ∧ R = A.take e ∧ (e = 0 ∨ A.getD (e-1) 0 ≠ 0)) :
    Lim b R ∧ Norm R ∧ val b R = val b A ∧ R.length ≤ A.length := by
  obtain ⟨e, ⟨he, hz⟩, rfl, hn⟩ := h
  have hl : (A.take e).length = e := by rw [List.length_take]; omega
  refine ⟨lim_take hL e, ?_, ?_, by omega⟩
  · unfold Norm
    rw [hl]
    rcases hn with hn | hn
    · exact .inl hn
    · by_cases h0 : e = 0
      · exact .inl h0
      · refine .inr ?_
        rw [List.getD_eq_getElem?_getD, List.getElem?_take_of_lt (by omega), ← List.getD_eq_getElem?_getD]
        exact hn
  · conv => rhs; rw [← List.take_append_drop e A]
    rw [val_append, val_zero b (A.drop e), Int.mul_zero, Int.add_zero]
    intro i hi
    rw [List.length_drop] at hi
    rw [List.getD_eq_getElem?_getD, List.getElem?_drop, ← List.getD_eq_getElem?_getD]
    exact hz _ (by omega) (by omega)
end PPlain
end Mine

namespace Mine
section PPlain2
open PySem PyProof.Rows
set_option maxRecDepth 100000
theorem mask_eq {x : Int} (hx : 0 ≤ x) (n : Nat) : Builtin.bitAnd x (1 * 2 ^ n - 1) = x % 2 ^ n := by
  have hp : (0 : Int) < 2 ^ n := Int.pow_pos (by decide)
  rw [bitAnd_pp hx (by omega)]
  have e : (1 * 2 ^ n - 1 : Int).toNat = 2 ^ n - 1 := by
    have : ((2 ^ n : Nat) : Int) = 2 ^ n := by simp
    omega
  rw [e, Nat.and_two_pow_sub_one_eq_mod]
  have : ((2 ^ n : Nat) : Int) = 2 ^ n := by simp
  rw [Int.natCast_emod, this]
  congr 1
  omega
theorem mask_eq' {x : Int} (hx : 0 ≤ x) (n : Nat) : Builtin.bitAnd x (2 ^ n - 1) = x % 2 ^ n := by
  have := mask_eq hx n
  rwa [Int.one_mul] at this
theorem fdiv_eq {x : Int} (n : Nat) : x.fdiv (2 ^ n) = x / 2 ^ n := Int.fdiv_eq_ediv_of_nonneg _ (Int.le_of_lt (Int.pow_pos (by decide)))

theorem val_lt {b : Int} (hb : 1 ≤ b) : ∀ {A : List Int}, Lim b A → 0 ≤ val b A ∧ val b A < b ^ A.length
  | [], _ => by simp [val]
  | x :: r, h => by
    obtain ⟨h0, h1⟩ := h x (.head _)
    obtain ⟨i0, i1⟩ := val_lt hb (A := r) fun y hy => h y (.tail _ hy)
    show 0 ≤ x + b * val b r ∧ x + b * val b r < b ^ (r.length + 1)
    rw [Int.pow_succ]
    refine ⟨by have := Int.mul_nonneg (show 0 ≤ b by omega) i0; omega, ?_⟩
    have : b * (val b r + 1) ≤ b * b ^ r.length := Int.mul_le_mul_of_nonneg_left (by omega) (by omega)
    rw [Int.mul_add, Int.mul_one] at this
    rw [Int.mul_comm (b ^ r.length) b]
    omega

/-- one turn of times_limb over any start -/
theorem tl_fold {n : Nat} {b q : Int} (hb : b = 2 ^ n) (hb1 : 1 ≤ b) (hq0 : 0 ≤ q) (hq1 : q < b) : ∀ (A : List Int) (c0 : Int) (f0 : List Int), Lim b A → Lim b f0 → 0 ≤ c0 → c0 < b →
    let r := A.foldl (fun (p : Int × List Int) k1 => ((p.1 + k1 * q).fdiv (2 ^ n), p.2 ++ [Builtin.bitAnd (p.1 + k1 * q) (1 * 2 ^ n - 1)])) (c0, f0)
    Lim b r.2 ∧ r.2.length = f0.length + A.length ∧ 0 ≤ r.1 ∧ r.1 < b ∧ val b r.2 + r.1 * b ^ (f0.length + A.length) = val b f0 + b ^ f0.length * (c0 + val b A * q)
  | [], c0, f0, _, hf, h0, h1 => by
    simp [val]; refine ⟨hf, h0, h1, by rw [Int.mul_comm]⟩
  | x :: r, c0, f0, hA, hf, h0, h1 => by
    obtain ⟨x0, x1⟩ := hA x (.head _)
    have hxq : 0 ≤ x * q := Int.mul_nonneg x0 hq0
    have hxq1 : x * q ≤ (b - 1) * (b - 1) := Int.mul_le_mul (by omega) (by omega) hq0 (by omega)
    have hs : 0 ≤ c0 + x * q := by omega
    have hm0 := Int.emod_nonneg (c0 + x * q) (show b ≠ 0 by omega)
    have hm1 := Int.emod_lt_of_pos (c0 + x * q) (show 0 < b by omega)
    have hd0 : 0 ≤ (c0 + x * q) / b := Int.ediv_nonneg hs (by omega)
    have hd1 : (c0 + x * q) / b < b := by
      apply Int.ediv_lt_of_lt_mul (by omega)
      have : (b - 1) * (b - 1) = b * b - 2 * b + 1 := by grind
      omega
    have hdm := Int.mul_ediv_add_emod (c0 + x * q) b
    rw [List.foldl_cons]
    dsimp only
    rw [fdiv_eq, mask_eq hs, ← hb]
    have ih := tl_fold hb hb1 hq0 hq1 r ((c0 + x * q) / b) (f0 ++ [(c0 + x * q) % b]) (fun y hy => hA y (.tail _ hy)) (lim_append hf (lim_one hm0 hm1)) hd0 hd1
    dsimp only at ih
    obtain ⟨i1, i2, i3, i4, i5⟩ := ih
    rw [hb] at *
    refine ⟨i1, by rw [i2]; simp; omega, i3, i4, ?_⟩
    have e : (f0 ++ [(c0 + x * q) % 2 ^ n]).length + r.length = f0.length + (x :: r).length := by simp; omega
    rw [e] at i5
    rw [i5, val_append, List.length_append, List.length_singleton, Int.pow_succ]
    show _ + _ * ((c0 + x * q) % 2 ^ n + 2 ^ n * 0) + _ = _ + _ * (c0 + (x + 2 ^ n * val (2 ^ n) r) * q)
    grind

theorem times_end {n : Nat} {b q : Int} {A R : List Int} (hb : b = 2 ^ n) (hb1 : 1 ≤ b) (hq0 : 0 ≤ q) (hq1 : q < b) (hA : Lim b A) {r : Int × List Int}
    (hr : r = A.foldl (fun (p : Int × List Int) k1 => ((p.1 + k1 * q).fdiv (2 ^ n), p.2 ++ [Builtin.bitAnd (p.1 + k1 * q) (1 * 2 ^ n - 1)])) (0, []))
    (h : ∃ e, endZ (r.2 ++ [r.1]) e ∧ R = (r.2 ++ [r.1]).take e ∧ (e = 0 ∨ (r.2 ++ [r.1]).getD (e-1) 0 ≠ 0)) :
    Lim b R ∧ Norm R ∧ val b R = val b A * q ∧ R.length ≤ A.length + 1 := by
  have t := tl_fold hb hb1 hq0 hq1 A 0 [] hA lim_nil (by omega) (by omega)
  dsimp only at t
  rw [← hr] at t
  obtain ⟨t1, t2, t3, t4, t5⟩ := t
  obtain ⟨n1, n2, n3, n4⟩ := norm_take (lim_append t1 (lim_one t3 t4)) h
  refine ⟨n1, n2, ?_, by rw [List.length_append, t2] at n4; simpa using n4⟩
  rw [n3, val_append, t2]
  simp [val] at t5 ⊢
  rw [Int.mul_comm (b ^ A.length)]
  exact t5

theorem norm_of_le {b : Int} (hb : 1 ≤ b) {R : List Int} (hL : Lim b R) (h : b ^ (R.length - 1) ≤ val b R) : Norm R := by
  by_cases h0 : R.length = 0
  · exact .inl h0
  · refine .inr fun hz => ?_
    have e : R = R.take (R.length - 1) ++ [R.getD (R.length - 1) 0] := by
      conv => lhs; rw [← List.take_append_drop (R.length - 1) R]
      congr 1
      rw [List.drop_eq_getElem_cons (by omega), List.drop_of_length_le (by omega)]
      simp [List.getD, List.getElem?_eq_getElem (show R.length - 1 < R.length by omega)]
    have hv : val b R = val b (R.take (R.length - 1)) := by
      conv => lhs; rw [e]
      rw [val_append, hz]; simp [val]
    have hlt := (val_lt hb (lim_take hL (R.length - 1))).2
    rw [List.length_take, Nat.min_eq_left (by omega)] at hlt
    omega
theorem le_of_norm {b : Int} (hb : 1 ≤ b) {R : List Int} (hL : Lim b R) (hN : Norm R) : R.length = 0 ∨ b ^ (R.length - 1) ≤ val b R := by
  rcases hN with h | h
  · exact .inl h
  · by_cases h0 : R.length = 0
    · exact .inl h0
    right
    have e : R = R.take (R.length - 1) ++ [R.getD (R.length - 1) 0] := by
      conv => lhs; rw [← List.take_append_drop (R.length - 1) R]
      congr 1
      rw [List.drop_eq_getElem_cons (by omega), List.drop_of_length_le (by omega)]
      simp [List.getD, List.getElem?_eq_getElem (show R.length - 1 < R.length by omega)]
    have hm : R.getD (R.length - 1) 0 ∈ R := by rw [e]; simp
    have hx := hL _ hm
    have h1 := (val_lt hb (lim_take hL (R.length - 1))).1
    have hv : val b R = val b (R.take (R.length - 1)) + b ^ (R.length - 1) * R.getD (R.length - 1) 0 := by
      conv => lhs; rw [e]
      rw [val_append, List.length_take, Nat.min_eq_left (by omega)]; simp [val]
    have hp : 0 < b ^ (R.length - 1) := Int.pow_pos (by omega)
    have : b ^ (R.length - 1) * 1 ≤ b ^ (R.length - 1) * R.getD (R.length - 1) 0 := Int.mul_le_mul_of_nonneg_left (by omega) (by omega)
    omega

theorem val_take_succ (b : Int) (A : List Int) (i : Nat) : val b (A.take (i + 1)) = val b (A.take i) + b ^ i * A.getD i 0 := by
  by_cases h : i < A.length
  · rw [List.take_add_one, List.getElem?_eq_getElem h]
    show val b (A.take i ++ [A[i]]) = _
    rw [val_append, List.length_take, Nat.min_eq_left (by omega)]
    simp [val, List.getD, List.getElem?_eq_getElem h]
  · rw [List.take_of_length_le (by omega), List.take_of_length_le (by omega), List.getD_eq_getElem?_getD, List.getElem?_eq_none (by omega)]
    simp
theorem lim_getD {b : Int} (hb : 1 ≤ b) {A : List Int} (h : Lim b A) (i : Nat) : 0 ≤ A.getD i 0 ∧ A.getD i 0 < b := by
  by_cases hi : i < A.length
  · rw [List.getD_eq_getElem?_getD, List.getElem?_eq_getElem hi]
    exact h _ (List.getElem_mem hi)
  · rw [List.getD_eq_getElem?_getD, List.getElem?_eq_none (by omega)]
    simp; omega
theorem getD_out {A : List Int} {i : Nat} (h : A.length ≤ i) : A.getD i 0 = 0 := by
  rw [List.getD_eq_getElem?_getD, List.getElem?_eq_none h]; rfl

def AddInv (b : Int) (A B : List Int) (i : Nat) (carry : Int) (found : List Int) : Prop :=
  Lim b found ∧ found.length = i ∧ 0 ≤ carry ∧ carry ≤ 1 ∧ val b found + carry * b ^ i = val b (A.take i) + val b (B.take i)
theorem add_start (b : Int) (A B : List Int) : AddInv b A B 0 0 [] := ⟨lim_nil, rfl, by omega, by omega, by simp [val]⟩
theorem add_step {n : Nat} {b : Int} {A B found : List Int} {i : Nat} {carry : Int} (hb : b = 2 ^ n) (hb1 : 2 ≤ b) (hA : Lim b A) (hB : Lim b B) (h : AddInv b A B i carry found) {c : Int} (hc : c = carry + A.getD i 0 + B.getD i 0) :
    AddInv b A B (i + 1) (c.fdiv (2 ^ n)) (found ++ [Builtin.bitAnd c (1 * 2 ^ n - 1)]) := by
  obtain ⟨h1, h2, h3, h4, h5⟩ := h
  have ha := lim_getD (by omega) hA i
  have hb' := lim_getD (by omega) hB i
  have hc0 : 0 ≤ c := by omega
  have hm0 := Int.emod_nonneg c (show b ≠ 0 by omega)
  have hm1 := Int.emod_lt_of_pos c (show 0 < b by omega)
  have hdm := Int.mul_ediv_add_emod c b
  have hd0 : 0 ≤ c / b := Int.ediv_nonneg hc0 (by omega)
  have hd1 : c / b < 2 := by apply Int.ediv_lt_of_lt_mul (by omega); omega
  rw [fdiv_eq, mask_eq hc0, ← hb]
  refine ⟨lim_append h1 (lim_one hm0 hm1), by simp [h2], hd0, by omega, ?_⟩
  rw [val_append, val_take_succ, val_take_succ, h2, Int.pow_succ]
  simp only [val]
  have : b ^ i * c = b ^ i * (b * (c / b) + c % b) := by rw [hdm]
  grind
theorem add_cast {b : Int} {A B found : List Int} {i j : Nat} {carry : Int} (h : AddInv b A B i carry found) (e : i = j) : AddInv b A B j carry found := e ▸ h
theorem add_turn {n : Nat} {b : Int} {A B found : List Int} {i j : Nat} {carry : Int} (hb : b = 2 ^ n) (hb1 : 2 ≤ b) (hA : Lim b A) (hB : Lim b B) (h : AddInv b A B i carry found) {c : Int} (hc : c = carry + A.getD i 0 + B.getD i 0) (hj : i + 1 = j) :
    AddInv b A B j (c.fdiv (2 ^ n)) (found ++ [Builtin.bitAnd c (1 * 2 ^ n - 1)]) := hj ▸ add_step hb hb1 hA hB h hc
theorem add_st1 {b : Int} {A B : List Int} : ([] : List Int).length = ([] : List Int).length ∧ AddInv b A B ([] : List Int).length 0 [] := ⟨rfl, add_start _ _ _⟩
theorem add_st2 {b : Int} {A B f : List Int} {c : Int} {pre : List Int} (h1 : f.length = pre.length) (h2 : AddInv b A B pre.length c f) (hm : pre.length = min A.length B.length) :
    f.length = ([] : List Int).length + min A.length B.length ∧ AddInv b A B (([] : List Int).length + min A.length B.length) c f := by
  simp only [List.length_nil, Nat.zero_add]
  exact ⟨by omega, add_cast h2 hm⟩
section
variable {n : Nat} {b c kN : Int} {A B f pre : List Int}
theorem add_tn1 (hb : b = 2 ^ n) (hb1 : 2 ≤ b) (hA : Lim b A) (hB : Lim b B) (h1 : f.length = pre.length) (h2 : AddInv b A B pre.length c f) (hk : kN = 0 + (pre.length : Int)) :
    (f ++ [Builtin.bitAnd (c + (A.getD kN.toNat 0 + B.getD kN.toNat 0)) (1 * 2 ^ n - 1)]).length = (pre ++ [kN]).length ∧
    AddInv b A B (pre ++ [kN]).length ((c + (A.getD kN.toNat 0 + B.getD kN.toNat 0)).fdiv (2 ^ n)) (f ++ [Builtin.bitAnd (c + (A.getD kN.toNat 0 + B.getD kN.toNat 0)) (1 * 2 ^ n - 1)]) := by
  have e : kN.toNat = pre.length := by omega
  refine ⟨by simp [h1], add_turn hb hb1 hA hB h2 (by rw [e]; omega) (by simp)⟩
theorem add_tn1' (hb : b = 2 ^ n) (hb1 : 2 ≤ b) (hA : Lim b A) (hB : Lim b B) (h1 : f.length = pre.length) (h2 : AddInv b A B pre.length c f) (hk : kN = 0 + (pre.length : Int)) :
    (f ++ [Builtin.bitAnd (c + (B.getD kN.toNat 0 + A.getD kN.toNat 0)) (1 * 2 ^ n - 1)]).length = (pre ++ [kN]).length ∧
    AddInv b A B (pre ++ [kN]).length ((c + (B.getD kN.toNat 0 + A.getD kN.toNat 0)).fdiv (2 ^ n)) (f ++ [Builtin.bitAnd (c + (B.getD kN.toNat 0 + A.getD kN.toNat 0)) (1 * 2 ^ n - 1)]) := by
  have e : kN.toNat = pre.length := by omega
  refine ⟨by simp [h1], add_turn hb hb1 hA hB h2 (by rw [e]; omega) (by simp)⟩
theorem add_tn2 (hb : b = 2 ^ n) (hb1 : 2 ≤ b) (hA : Lim b A) (hB : Lim b B) (h1 : f.length = pre.length + min A.length B.length) (h2 : AddInv b A B (pre.length + min A.length B.length) c f) (hk : kN = (B.length : Int) + (pre.length : Int)) (hl : B.length ≤ A.length) :
    (f ++ [Builtin.bitAnd (c + A.getD kN.toNat 0) (1 * 2 ^ n - 1)]).length = (pre ++ [kN]).length + min A.length B.length ∧
    AddInv b A B ((pre ++ [kN]).length + min A.length B.length) ((c + A.getD kN.toNat 0).fdiv (2 ^ n)) (f ++ [Builtin.bitAnd (c + A.getD kN.toNat 0) (1 * 2 ^ n - 1)]) := by
  have e : kN.toNat = pre.length + min A.length B.length := by omega
  refine ⟨by simp [h1]; omega, add_turn hb hb1 hA hB h2 (by rw [e, getD_out (A := B) (by omega)]; omega) (by simp; omega)⟩
theorem add_tn2' (hb : b = 2 ^ n) (hb1 : 2 ≤ b) (hA : Lim b A) (hB : Lim b B) (h1 : f.length = pre.length + min A.length B.length) (h2 : AddInv b A B (pre.length + min A.length B.length) c f) (hk : kN = (A.length : Int) + (pre.length : Int)) (hl : A.length ≤ B.length) :
    (f ++ [Builtin.bitAnd (c + B.getD kN.toNat 0) (1 * 2 ^ n - 1)]).length = (pre ++ [kN]).length + min A.length B.length ∧
    AddInv b A B ((pre ++ [kN]).length + min A.length B.length) ((c + B.getD kN.toNat 0).fdiv (2 ^ n)) (f ++ [Builtin.bitAnd (c + B.getD kN.toNat 0) (1 * 2 ^ n - 1)]) := by
  have e : kN.toNat = pre.length + min A.length B.length := by omega
  refine ⟨by simp [h1]; omega, add_turn hb hb1 hA hB h2 (by rw [e, getD_out (A := A) (by omega)]; omega) (by simp; omega)⟩
end
theorem add_end {b : Int} {A B found : List Int} {i : Nat} {carry : Int} (hb1 : 2 ≤ b) (hA : Lim b A) (hB : Lim b B) (hi : i = max A.length B.length) (h : AddInv b A B i carry found) {R : List Int}
    (hR : (0 < carry ∧ R = found ++ [carry]) ∨ (¬ 0 < carry ∧ R = found)) :
    Lim b R ∧ val b R = val b A + val b B ∧ (Norm A → Norm B → Norm R) ∧ R.length ≤ max A.length B.length + 1 := by
  obtain ⟨h1, h2, h3, h4, h5⟩ := h
  rw [List.take_of_length_le (by omega), List.take_of_length_le (by omega)] at h5
  rcases hR with ⟨hc, rfl⟩ | ⟨hc, rfl⟩
  · have hc1 : carry = 1 := by omega
    subst hc1
    refine ⟨lim_append h1 (lim_one (by omega) (by omega)), ?_, fun _ _ => ?_, by simp; omega⟩
    · rw [val_append, h2]; simp [val]; omega
    · right; simp
  · have hc0 : carry = 0 := by omega
    subst hc0
    have hv : val b R = val b A + val b B := by omega
    refine ⟨h1, hv, fun nA nB => ?_, by omega⟩
    by_cases h0 : R.length = 0
    · exact .inl h0
    refine norm_of_le (by omega) h1 ?_
    have a0 := (val_lt (by omega) hA).1
    have b0 := (val_lt (by omega) hB).1
    rw [hv, h2, hi]
    rcases Nat.le_total A.length B.length with hl | hl
    · rw [Nat.max_eq_right hl]
      have := le_of_norm (by omega) hB nB
      omega
    · rw [Nat.max_eq_left hl]
      have := le_of_norm (by omega) hA nA
      omega
theorem add_end2 {b : Int} {A B found : List Int} {i : Nat} {carry : Int} {R : List Int} (hb1 : 2 ≤ b) (hA : Lim b A) (hB : Lim b B) 
    (hR : (R = found ++ [carry] ∧ 0 < carry) ∨ (R = found ∧ ¬ 0 < carry)) (h : AddInv b A B i carry found) (hi : i = max A.length B.length) :
    Lim b R ∧ val b R = val b A + val b B ∧ (Norm A → Norm B → Norm R) ∧ R.length ≤ max A.length B.length + 1 :=
  add_end hb1 hA hB hi h (hR.imp (fun x => ⟨x.2, x.1⟩) fun x => ⟨x.2, x.1⟩)
end PPlain2
end Mine

namespace Mine
section PPlain3
open PySem PyProof.Rows
set_option maxRecDepth 100000
theorem norm_append {X R : List Int} (h : Norm R) (h0 : R.length ≠ 0) : Norm (X ++ R) := by
  right
  rcases h with h | h
  · exact absurd h h0
  · rw [List.getD_eq_getElem?_getD, List.getElem?_append_right (by rw [List.length_append]; omega), List.length_append, show X.length + R.length - 1 - X.length = R.length - 1 by omega, ← List.getD_eq_getElem?_getD]
    exact h
theorem norm_drop {A : List Int} (h : Norm A) (e : Nat) : Norm (A.drop e) := by
  by_cases he : A.length ≤ e
  · left; rw [List.length_drop]; omega
  · right
    rcases h with h | h
    · omega
    · rw [List.getD_eq_getElem?_getD, List.getElem?_drop, List.length_drop, show e + (A.length - e - 1) = A.length - 1 by omega, ← List.getD_eq_getElem?_getD]
      exact h
theorem flat_zero (n : Nat) : (List.replicate n [(0 : Int)]).flatten = List.replicate n 0 := by
  induction n with
  | zero => rfl
  | succ n ih => simp [List.replicate_succ, ih]
theorem val_rep (b : Int) (n : Nat) : val b (List.replicate n 0) = 0 := by
  induction n with
  | zero => rfl
  | succ n ih => rw [List.replicate_succ]; simp [val, ih]
theorem lim_rep {b : Int} (hb : 1 ≤ b) (n : Nat) : Lim b (List.replicate n 0) := fun x hx => by
  rw [(List.mem_replicate.mp hx).2]; omega
theorem nil_of_len {A : List Int} (h : A.length = 0) : A = [] := List.length_eq_zero_iff.mp h

theorem at_1 {b p : Int} {A B : List Int} (hA : Lim b A) (nA : Norm A) (h : (B.length : Int) = 0) :
    Lim b A ∧ Norm A ∧ val b A = val b A + val b B * b ^ p.toNat ∧ A.length ≤ max A.length (B.length + p.toNat) + 1 := by
  have := nil_of_len (A := B) (by omega)
  subst this
  refine ⟨hA, nA, by simp [val], by omega⟩
theorem at_2 {b p : Int} {A B : List Int} (hb : 1 ≤ b) (hA : Lim b A) (hB : Lim b B) (nB : Norm B) (h0 : (B.length : Int) ≠ 0) (h : (A.length : Int) ≤ p) :
    let R := A ++ (List.replicate (p - (A.length : Int)).toNat [(0 : Int)]).flatten ++ B
    Lim b R ∧ Norm R ∧ val b R = val b A + val b B * b ^ p.toNat ∧ R.length ≤ max A.length (B.length + p.toNat) + 1 := by
  intro R
  show Lim b (A ++ (List.replicate (p - (A.length : Int)).toNat [(0 : Int)]).flatten ++ B) ∧ Norm (A ++ (List.replicate (p - (A.length : Int)).toNat [(0 : Int)]).flatten ++ B) ∧ val b (A ++ (List.replicate (p - (A.length : Int)).toNat [(0 : Int)]).flatten ++ B) = _ ∧ (A ++ (List.replicate (p - (A.length : Int)).toNat [(0 : Int)]).flatten ++ B).length ≤ _
  rw [flat_zero]
  refine ⟨lim_append (lim_append hA (lim_rep hb _)) hB, norm_append nB (by omega), ?_, by simp; omega⟩
  rw [val_append, val_append, val_rep, List.length_append, List.length_replicate, show A.length + (p - (A.length : Int)).toNat = p.toNat by omega, Int.mul_zero, Int.add_zero, Int.mul_comm]
theorem at_3 {b p : Int} {A B R9 : List Int} (hb : 2 ≤ b) (hA : Lim b A) (hB : Lim b B) (nA : Norm A) (nB : Norm B) (hp : 0 ≤ p) (h0 : (B.length : Int) ≠ 0) (h : ¬ (A.length : Int) ≤ p)
    (h9 : Lim b R9 ∧ val b R9 = val b (List.drop p.toNat A) + val b B ∧ (Norm (List.drop p.toNat A) → Norm B → Norm R9) ∧ R9.length ≤ max (List.drop p.toNat A).length B.length + 1) :
    let R := List.take p.toNat A ++ R9
    Lim b R ∧ Norm R ∧ val b R = val b A + val b B * b ^ p.toNat ∧ R.length ≤ max A.length (B.length + p.toNat) + 1 := by
  intro R
  obtain ⟨l9, v9, n9, e9⟩ := h9
  have hd := val_lt (by omega) (lim_drop hA p.toNat)
  have hBv := le_of_norm (by omega) hB nB
  have hBp : 0 < b ^ (B.length - 1) := Int.pow_pos (by omega)
  have hne : R9.length ≠ 0 := fun e => by
    rw [nil_of_len e] at v9
    simp only [val] at v9
    omega
  have ht : (A.take p.toNat).length = p.toNat := by rw [List.length_take]; omega
  refine ⟨lim_append (lim_take hA _) l9, norm_append (n9 (norm_drop nA _) nB) hne, ?_, ?_⟩
  · show val b (List.take p.toNat A ++ R9) = _
    rw [val_append, ht, v9]
    conv => rhs; rw [← List.take_append_drop p.toNat A, val_append, ht]
    rw [Int.mul_add, Int.mul_comm (b ^ p.toNat) (val b B)]
    omega
  · show (List.take p.toNat A ++ R9).length ≤ _
    rw [List.length_append, ht]
    rw [List.length_drop] at e9
    omega
end PPlain3
end Mine

namespace Mine
section PPlain4
open PySem PyProof.Rows
set_option maxRecDepth 100000
theorem lim_get1 {b : Int} {A : List Int} (h : Lim b A) (hb : 1 ≤ b) (i : Nat) : 0 ≤ A.getD i 0 := (lim_getD hb h i).1
theorem lim_get2 {b : Int} {A : List Int} (h : Lim b A) (hb : 1 ≤ b) (i : Nat) : A.getD i 0 < b := (lim_getD hb h i).2
/-- the row of middle_product's turn i: the slice of A -/
def midRow (A B : List Int) (i : Nat) : List Int := (A.take (A.length - i)).drop (B.length - 1 - i)
def midS (b : Int) (A B : List Int) : Nat → Int
  | 0 => 0
  | i + 1 => midS b A B i + val b (midRow A B i) * B.getD i 0
def MidInv (b : Int) (A B : List Int) (i : Nat) (R : List Int) : Prop :=
  Lim b R ∧ Norm R ∧ val b R = midS b A B i ∧ R.length ≤ A.length + 1 + i
theorem mid_start (b : Int) (A B : List Int) : MidInv b A B 0 [] := ⟨lim_nil, .inl rfl, rfl, by simp⟩
theorem drop_take (A : List Int) (m n : Nat) : (A.take n).drop m = (A.drop m).take (n - m) := by
  induction m generalizing A n with
  | zero => simp
  | succ m ih =>
    cases A with
    | nil => simp
    | cons x r =>
      cases n with
      | zero => simp
      | succ n => simp [ih]
theorem mid_cast {b : Int} {A B R : List Int} {i j : Nat} (h : MidInv b A B i R) (e : i = j) : MidInv b A B j R := e ▸ h
theorem mid_turn {b q : Int} {A B F R1 R2 R3 : List Int} {i : Nat} {u v : Nat}
    (l3 : Lim b R3) (v3 : val b R3 = val b F + val b R2) (n3 : Norm F → Norm R2 → Norm R3) (e3 : R3.length ≤ max F.length R2.length + 1)
    (n2 : Norm R2) (v2 : val b R2 = val b R1 * q) (e2 : R2.length ≤ R1.length + 1)
    (v1 : val b R1 = val b ((A.drop v).take u))
    (nF : Norm F) (vF : val b F = midS b A B i)
    (hx : u = (A.length - i) - (B.length - 1 - i)) (hy : v = B.length - 1 - i) (hq : q = B.getD i 0)
    (eF : F.length ≤ A.length + 1 + i) (e1 : R1.length ≤ A.length) :
    MidInv b A B (i + 1) R3 := by
  refine ⟨l3, n3 nF n2, ?_, by omega⟩
  show _ = midS b A B i + val b (midRow A B i) * B.getD i 0
  unfold midRow
  rw [v3, vF, v2, v1, hq, drop_take, hx, hy]
end PPlain4
end Mine

namespace Mine
section PPlain5
open PySem PyProof.Rows
set_option maxRecDepth 100000
/-- high_school: the limb at i times what of B lies from q - 1 - i on -/
def highS (b : Int) (A B : List Int) (q : Int) : Nat → Int
  | 0 => 0
  | i + 1 => highS b A B q i + val b (B.drop (q - 1 - i).toNat) * A.getD i 0 * b ^ (i + (q - 1 - i).toNat - (q - 1)).toNat
def HighInv (b : Int) (A B : List Int) (q : Int) (i : Nat) (R : List Int) : Prop :=
  Lim b R ∧ Norm R ∧ val b R = highS b A B q i ∧ R.length ≤ B.length + 1 + 2 * i
theorem high_start (b : Int) (A B : List Int) (q : Int) : HighInv b A B q 0 [] := ⟨lim_nil, .inl rfl, rfl, by simp⟩
theorem high_cast {b q : Int} {A B R : List Int} {i j : Nat} (h : HighInv b A B q i R) (e : i = j) : HighInv b A B q j R := e ▸ h
theorem high_turn {b q x : Int} {A B F R1 R2 R3 : List Int} {i v s : Nat}
    (l3 : Lim b R3) (n3 : Norm R3) (v3 : val b R3 = val b F + val b R2 * b ^ s) (e3 : R3.length ≤ max F.length (R2.length + s) + 1)
    (v2 : val b R2 = val b R1 * x) (e2 : R2.length ≤ R1.length + 1)
    (v1 : val b R1 = val b (B.drop v)) (vF : val b F = highS b A B q i)
    (hv : v = (q - 1 - i).toNat) (hs : s = (i + (q - 1 - i).toNat - (q - 1)).toNat) (hx : x = A.getD i 0)
    (eF : F.length ≤ B.length + 1 + 2 * i) (e1 : R1.length ≤ B.length) (hq : 1 ≤ q) :
    HighInv b A B q (i + 1) R3 := by
  refine ⟨l3, n3, ?_, by omega⟩
  show _ = highS b A B q i + val b (B.drop (q - 1 - i).toNat) * A.getD i 0 * b ^ (i + (q - 1 - i).toNat - (q - 1)).toNat
  rw [v3, vF, v2, v1, hx, hv, hs]
end PPlain5
end Mine

namespace Mine
section PPlain6
open PySem PyProof.Rows
set_option maxRecDepth 100000
/-- the value of a list of limbs, the highest first -/
def valR (b : Int) (A : List Int) : Int := A.foldl (fun f x => f * b + x) 0
theorem valR_one (b : Int) (A : List Int) (x : Int) : valR b (A ++ [x]) = valR b A * b + x := by simp [valR]
theorem valR_reverse (b : Int) : ∀ A : List Int, valR b A.reverse = val b A
  | [] => rfl
  | x :: r => by
    rw [List.reverse_cons, valR_one, valR_reverse b r]
    show _ = x + b * val b r
    rw [Int.mul_comm, Int.add_comm]
theorem valR_eq (b : Int) (A : List Int) : valR b A = val b A.reverse := by rw [← valR_reverse, List.reverse_reverse]
theorem pow_le_two {b : Int} (hb0 : 0 ≤ b) (hb : b ≤ 512) (n : Nat) : b ^ n ≤ 2 ^ (9 * n) := by
  induction n with
  | zero => simp
  | succ n ih =>
    rw [Int.pow_succ, show 9 * (n + 1) = 9 * n + 9 by omega, Int.pow_add]
    exact Int.mul_le_mul ih hb hb0 (Int.le_of_lt (Int.pow_pos (by decide)))
theorem two_mono {m n : Nat} (h : m ≤ n) : (2 : Int) ^ m ≤ 2 ^ n := by
  have := Nat.pow_le_pow_right (n := 2) (by decide) h
  exact_mod_cast this
theorem bits_le {x : Int} {n : Nat} (h0 : 0 ≤ x) (h : x < 2 ^ n) : Builtin.Int.intBits x ≤ n := by
  refine PySem.intBits_le_iff.mpr ?_
  have : ((2 ^ n : Nat) : Int) = 2 ^ n := by simp
  omega
def OfInv (b : Int) (pre : List Int) (f : Int) : Prop := f = valR b pre ∧ Builtin.Int.intBits f ≤ 600
theorem of_start (b : Int) : 0 = valR b [] ∧ Builtin.Int.intBits 0 ≤ 600 := ⟨rfl, by decide⟩
theorem of_turn {n : Nat} {b x f : Int} {A pre post : List Int} (hb : b = 2 ^ n) (hb1 : b ≤ 512) (hb2 : 4 ≤ b) (hA : Lim b A) (hl : A.length < 60) (h1 : f = valR b pre) (he : A.reverse = pre ++ x :: post) :
    f * 2 ^ n + x = valR b (pre ++ [x]) ∧ Builtin.Int.intBits (f * 2 ^ n + x) ≤ 600 := by
  have e : f * 2 ^ n + x = valR b (pre ++ [x]) := by rw [valR_one, h1, hb]
  refine ⟨e, ?_⟩
  have hL : Lim b (pre ++ [x]).reverse := fun y hy => hA y (by
    rw [← List.mem_reverse, he]
    rcases List.mem_append.mp (List.mem_reverse.mp hy) with h | h
    · exact List.mem_append.mpr (.inl h)
    · rw [List.mem_singleton.mp h]; simp)
  have hlen : (pre ++ [x]).length ≤ A.length := by
    have := congrArg List.length he
    simp at this ⊢
    omega
  rw [e, valR_eq]
  obtain ⟨v0, v1⟩ := val_lt (by omega) hL
  rw [List.length_reverse] at v1
  refine bits_le v0 (Int.lt_of_lt_of_le v1 (Int.le_trans (pow_le_two (by omega) hb1 _) ?_))
  exact two_mono (by omega)
theorem of_mem {b x : Int} {A pre post : List Int} (hA : Lim b A) (he : A.reverse = pre ++ x :: post) : 0 ≤ x ∧ x < b := hA x (by
  rw [← List.mem_reverse, he]; simp)
theorem ne_len {A : List Int} (h : decide (A = []) = false) : 1 ≤ A.length := by
  have := of_decide_eq_false h
  cases A with
  | nil => exact absurd rfl this
  | cons x r => simp
theorem of_ret {b f : Int} {t : Tok} {A : List Int} (h : f = valR b A.reverse) : ∃ t', Value.int f t = Value.int (val b A) t' := ⟨t, by rw [h, valR_reverse]⟩
theorem of_absurd {A : List Int} (hn : Norm A) (h1 : 1 ≤ A.length) (h0 : A.getD (-1 + (A.length : Int)).toNat 0 = 0) : False := by
  rcases hn with h | h
  · omega
  · rw [show (-1 + (A.length : Int)).toNat = A.length - 1 by omega] at h0
    exact h h0
end PPlain6
end Mine

namespace Mine
section PPlain7
open PySem PyProof.Rows
set_option maxRecDepth 100000
/-- one row of _law_between: the limb at i of A, value x, with the first j limbs of B -/
def btRow (b : Int) (x : Int) (i : Nat) (B : List Int) (lo hi : Int) : Nat → Int
  | 0 => 0
  | j + 1 => btRow b x i B lo hi j + (if lo ≤ (i : Int) + j ∧ (i : Int) + j < hi then x * B.getD j 0 * b ^ ((i : Int) + j - lo).toNat else 0)
/-- the first i rows -/
def btRows (b : Int) (A B : List Int) (lo hi : Int) : Nat → Int
  | 0 => 0
  | i + 1 => btRows b A B lo hi i + btRow b (A.getD i 0) i B lo hi B.length
def betw (b : Int) (A B : List Int) (lo hi : Int) : Int := btRows b A B lo hi A.length
theorem get_getD {A : List Int} {i : Nat} {x : Int} (h : A[i]? = some x) : A.getD i 0 = x := by rw [List.getD_eq_getElem?_getD, h]; rfl
theorem get_lim {b : Int} {A : List Int} {i : Nat} {x : Int} (hA : Lim b A) (h : A[i]? = some x) : 0 ≤ x ∧ x < b ∧ i < A.length :=
  ⟨(hA x (List.mem_of_getElem? h)).1, (hA x (List.mem_of_getElem? h)).2, (List.getElem?_eq_some_iff.mp h).1⟩
theorem sh_nn {k e : Int} (h1 : 0 ≤ k) (h2 : 0 ≤ e) : 0 ≤ k * e := Int.mul_nonneg h1 h2
theorem sh_sz {b x y k e : Int} (hb : b ≤ 512) (hx0 : 0 ≤ x) (hx : x < b) (hy0 : 0 ≤ y) (hy : y < b) (hk0 : 0 ≤ k) (hk : k ≤ 9) (he0 : 0 ≤ e) (he : e ≤ 100) : (Builtin.Int.intBits (x * y) : Int) + k * e ≤ 2 ^ 27 := by
  have h1 : k * e ≤ 9 * 100 := Int.mul_le_mul hk he he0 (by decide)
  have h2 : x * y ≤ 511 * 511 := Int.mul_le_mul (by omega) (by omega) hy0 (by decide)
  have h3 : Builtin.Int.intBits (x * y) ≤ 18 := bits_le (Int.mul_nonneg hx0 hy0) (Int.lt_of_le_of_lt h2 (by decide))
  have : (2 : Int) ^ 27 = 134217728 := by decide
  omega
theorem pow_mul_nat {k e b : Int} (hk : 0 ≤ k) (he : 0 ≤ e) (hb : b = 2 ^ k.toNat) : (2 : Int) ^ (k * e).toNat = b ^ e.toNat := by
  rw [hb, ← Int.pow_mul, Int.toNat_mul hk he]
theorem bt_start {b lo hi : Int} {A B : List Int} : (0 : Int) = btRows b A B lo hi 0 := rfl
theorem bt_start2 {b lo hi f x : Int} {A B : List Int} {i : Nat} (h : f = btRows b A B lo hi i) : f = btRows b A B lo hi i + btRow b x i B lo hi 0 := by rw [h]; simp [btRow]
theorem bt_yes {b lo hi f x y k r : Int} {B : List Int} {i j : Nat} (hb : b = 2 ^ k.toNat) (hk : 2 ≤ k) (hy : B[j]? = some y) (h : f = r + btRow b x i B lo hi j) (h1 : lo ≤ (i : Int) + j) (h2 : (i : Int) + j < hi) :
    f + x * y * 2 ^ (k * ((i : Int) + j - lo)).toNat = r + btRow b x i B lo hi (j + 1) := by
  rw [pow_mul_nat (by omega) (by omega) hb]
  show _ = r + (btRow b x i B lo hi j + (if lo ≤ (i : Int) + j ∧ (i : Int) + j < hi then x * B.getD j 0 * b ^ ((i : Int) + j - lo).toNat else 0))
  rw [if_pos ⟨h1, h2⟩, get_getD hy, h, Int.add_assoc]
theorem bt_no {b lo hi f x r : Int} {B : List Int} {i j : Nat} (h : f = r + btRow b x i B lo hi j) (h1 : ¬ (lo ≤ (i : Int) + j ∧ (i : Int) + j < hi)) :
    f = r + btRow b x i B lo hi (j + 1) := by
  show _ = r + (btRow b x i B lo hi j + (if lo ≤ (i : Int) + j ∧ (i : Int) + j < hi then x * B.getD j 0 * b ^ ((i : Int) + j - lo).toNat else 0))
  rw [if_neg h1, h, Int.add_zero]
theorem bt_row {b lo hi f x : Int} {A B : List Int} {i : Nat} (hx : A[i]? = some x) (h : f = btRows b A B lo hi i + btRow b x i B lo hi B.length) : f = btRows b A B lo hi (i + 1) := by
  show f = btRows b A B lo hi i + btRow b (A.getD i 0) i B lo hi B.length
  rw [get_getD hx]; exact h
theorem bt_ret {b lo hi f : Int} {A B : List Int} {t : Tok} (h : f = btRows b A B lo hi A.length) : ∃ t', Value.int f t = Value.int (betw b A B lo hi) t' := ⟨t, by rw [h]; rfl⟩
end PPlain7
end Mine

namespace Mine
section PPlain8
open PySem PyProof.Rows
set_option maxRecDepth 100000
def sumN : Nat → (Nat → Int) → Int
  | 0, _ => 0
  | n + 1, f => sumN n f + f n
theorem sumN_congr {n : Nat} {f g : Nat → Int} (h : ∀ i, i < n → f i = g i) : sumN n f = sumN n g := by
  induction n with
  | zero => rfl
  | succ n ih =>
    show sumN n f + f n = sumN n g + g n
    rw [ih fun i hi => h i (by omega), h n (by omega)]
theorem sumN_zero (n : Nat) : sumN n (fun _ => 0) = 0 := by
  induction n with
  | zero => rfl
  | succ n ih => show sumN n _ + 0 = 0; rw [ih]; rfl
theorem sumN_add (n : Nat) (f g : Nat → Int) : sumN n (fun i => f i + g i) = sumN n f + sumN n g := by
  induction n with
  | zero => rfl
  | succ n ih =>
    show sumN n _ + (f n + g n) = (sumN n f + f n) + (sumN n g + g n)
    rw [ih]; omega
theorem sumN_mul (n : Nat) (f : Nat → Int) (c : Int) : sumN n (fun i => f i * c) = sumN n f * c := by
  induction n with
  | zero => simp [sumN]
  | succ n ih =>
    show sumN n _ + f n * c = (sumN n f + f n) * c
    rw [ih, Int.add_mul]
theorem sumN_swap (n m : Nat) (f : Nat → Nat → Int) : sumN n (fun i => sumN m (fun j => f i j)) = sumN m (fun j => sumN n (fun i => f i j)) := by
  induction n with
  | zero => show 0 = sumN m (fun _ => 0); rw [sumN_zero]
  | succ n ih =>
    show sumN n _ + sumN m _ = sumN m (fun j => sumN n (fun i => f i j) + f n j)
    rw [ih, ← sumN_add]
theorem sumN_cons (n : Nat) (f : Nat → Int) : sumN (n + 1) f = f 0 + sumN n (fun i => f (i + 1)) := by
  induction n with
  | zero => simp [sumN]
  | succ n ih =>
    show sumN (n + 1) f + f (n + 1) = f 0 + (sumN n (fun i => f (i + 1)) + f (n + 1))
    rw [ih]; omega
theorem sumN_shift (n m l : Nat) (g : Nat → Nat → Int) : sumN l (fun i => if n ≤ i ∧ i < m then g (i - n) i else 0) = sumN (min m l - n) (fun t => g t (n + t)) := by
  induction l with
  | zero => rw [show min m 0 - n = 0 by omega]; rfl
  | succ l ih =>
    show sumN l _ + (if n ≤ l ∧ l < m then g (l - n) l else 0) = _
    rw [ih]
    by_cases h : n ≤ l ∧ l < m
    · rw [if_pos h, show min m (l + 1) - n = (min m l - n) + 1 by omega]
      show _ = sumN (min m l - n) (fun t => g t (n + t)) + g (min m l - n) (n + (min m l - n))
      rw [show min m l - n = l - n by omega, show n + (l - n) = l by omega]
    · rw [if_neg h, Int.add_zero]
      by_cases h1 : n ≤ l
      · rw [show min m (l + 1) = min m l by omega]
      · rw [show min m (l + 1) - n = 0 by omega, show min m l - n = 0 by omega]
theorem val_sum (b : Int) : ∀ A : List Int, val b A = sumN A.length (fun i => A.getD i 0 * b ^ i)
  | [] => rfl
  | x :: r => by
    rw [List.length_cons, sumN_cons]
    show x + b * val b r = _
    rw [val_sum b r, Int.mul_comm b, ← sumN_mul]
    simp only [List.getD_cons_zero, List.getD_cons_succ, Int.pow_zero, Int.mul_one, Int.pow_succ, Int.mul_assoc]
theorem val_slice (b : Int) (A : List Int) (m n : Nat) : val b ((A.take m).drop n) = sumN A.length (fun i => if n ≤ i ∧ i < m then A.getD i 0 * b ^ (i - n) else 0) := by
  rw [sumN_shift n m A.length (fun t i => A.getD i 0 * b ^ t), val_sum, List.length_drop, List.length_take]
  refine sumN_congr fun i hi => ?_
  congr 1
  rw [List.getD_eq_getElem?_getD, List.getElem?_drop, List.getElem?_take_of_lt (by omega), ← List.getD_eq_getElem?_getD]
theorem val_drop (b : Int) (A : List Int) (n : Nat) : val b (A.drop n) = sumN A.length (fun i => if n ≤ i ∧ i < A.length then A.getD i 0 * b ^ (i - n) else 0) := by
  rw [← val_slice, List.take_length]
theorem btRow_sum (b x : Int) (i : Nat) (B : List Int) (lo hi : Int) (n : Nat) : btRow b x i B lo hi n = sumN n (fun j => if lo ≤ (i : Int) + j ∧ (i : Int) + j < hi then x * B.getD j 0 * b ^ ((i : Int) + j - lo).toNat else 0) := by
  induction n with
  | zero => rfl
  | succ n ih => show btRow b x i B lo hi n + _ = sumN n _ + _; rw [ih]
theorem btRows_sum (b : Int) (A B : List Int) (lo hi : Int) (n : Nat) : btRows b A B lo hi n = sumN n (fun i => btRow b (A.getD i 0) i B lo hi B.length) := by
  induction n with
  | zero => rfl
  | succ n ih => show btRows b A B lo hi n + _ = sumN n _ + _; rw [ih]
theorem betw_sum (b : Int) (A B : List Int) (lo hi : Int) : betw b A B lo hi = sumN A.length (fun i => sumN B.length (fun j => if lo ≤ (i : Int) + j ∧ (i : Int) + j < hi then A.getD i 0 * B.getD j 0 * b ^ ((i : Int) + j - lo).toNat else 0)) := by
  unfold betw
  rw [btRows_sum]
  exact sumN_congr fun i _ => btRow_sum ..
theorem midS_sum (b : Int) (A B : List Int) (n : Nat) : midS b A B n = sumN n (fun j => val b (midRow A B j) * B.getD j 0) := by
  induction n with
  | zero => rfl
  | succ n ih => show midS b A B n + _ = sumN n _ + _; rw [ih]
theorem highS_sum (b : Int) (A B : List Int) (q : Int) (n : Nat) : highS b A B q n = sumN n (fun i => val b (B.drop (q - 1 - i).toNat) * A.getD i 0 * b ^ (i + (q - 1 - i).toNat - (q - 1)).toNat) := by
  induction n with
  | zero => rfl
  | succ n ih => show highS b A B q n + _ = sumN n _ + _; rw [ih]
/-- the middle product is what lies between -/
theorem mid_betw (b : Int) (A B : List Int) : midS b A B B.length = betw b A B ((B.length : Int) - 1) A.length := by
  rw [betw_sum, sumN_swap, midS_sum]
  refine sumN_congr fun j hj => ?_
  unfold midRow
  rw [val_slice, ← sumN_mul]
  refine sumN_congr fun i hi => ?_
  by_cases h : B.length - 1 - j ≤ i ∧ i < A.length - j
  · rw [if_pos h, if_pos (by omega), show ((i : Int) + j - ((B.length : Int) - 1)).toNat = i - (B.length - 1 - j) by omega]
    grind
  · rw [if_neg h, if_neg (by omega), Int.zero_mul]
theorem high_sum2 (b : Int) (A B : List Int) (q : Int) : highS b A B q A.length = sumN A.length (fun i => sumN B.length (fun j => if q - 1 ≤ (i : Int) + j then A.getD i 0 * B.getD j 0 * b ^ ((i : Int) + j - (q - 1)).toNat else 0)) := by
  rw [highS_sum]
  refine sumN_congr fun i hi => ?_
  rw [val_drop, Int.mul_assoc, ← sumN_mul]
  refine sumN_congr fun j hj => ?_
  by_cases h : q - 1 ≤ (i : Int) + j
  · rw [if_pos (by omega), if_pos h, show ((i : Int) + j - (q - 1)).toNat = (j - (q - 1 - i).toNat) + ((i : Int) + (q - 1 - i).toNat - (q - 1)).toNat by omega, Int.pow_add]
    generalize b ^ (j - (q - 1 - (i : Int)).toNat) = X
    generalize b ^ ((i : Int) + ((q - 1 - (i : Int)).toNat : Nat) - (q - 1)).toNat = Y
    grind
  · rw [if_neg (by omega), if_neg h, Int.zero_mul]
theorem betw_zero {b : Int} {A B : List Int} (h : B.length = 0 ∨ (A.length : Int) < (B.length : Int) - 1) : betw b A B ((B.length : Int) - 1) A.length = 0 := by
  rw [betw_sum]
  refine (sumN_congr fun i hi => ?_).trans (sumN_zero A.length)
  refine (sumN_congr fun j hj => ?_).trans (sumN_zero B.length)
  rw [if_neg (by omega)]
theorem high_split {b : Int} {A B : List Int} (h : (B.length : Int) - 1 ≤ A.length) :
    highS b A B B.length A.length = betw b A B ((B.length : Int) - 1) A.length + highS b A B ((A.length : Int) + 1) A.length * b ^ ((A.length : Int) - B.length + 1).toNat := by
  rw [betw_sum, high_sum2, high_sum2, ← sumN_mul, ← sumN_add]
  refine sumN_congr fun i hi => ?_
  rw [← sumN_mul, ← sumN_add]
  refine sumN_congr fun j hj => ?_
  by_cases h1 : (B.length : Int) - 1 ≤ (i : Int) + j
  · by_cases h2 : (i : Int) + j < A.length
    · rw [if_pos h1, if_pos ⟨h1, h2⟩, if_neg (by omega), Int.zero_mul, Int.add_zero]
    · rw [if_pos h1, if_neg (by omega), if_pos (by omega), Int.zero_add, Int.mul_assoc (A.getD i 0 * B.getD j 0), ← Int.pow_add, show ((i : Int) + j - ((B.length : Int) - 1)).toNat = ((i : Int) + j - ((A.length : Int) + 1 - 1)).toNat + ((A.length : Int) - B.length + 1).toNat by omega]
  · rw [if_neg h1, if_neg (by omega), if_neg (by omega), Int.zero_mul]; rfl
theorem mid_done {b : Int} {A B R : List Int} (h : MidInv b A B B.length R) : Lim b R ∧ Norm R ∧ val b R = betw b A B ((B.length : Int) - 1) A.length ∧ R.length ≤ A.length + 1 + B.length :=
  ⟨h.1, h.2.1, by rw [h.2.2.1, mid_betw], h.2.2.2⟩
end PPlain8
end Mine

namespace Mine
section PPlain9
open PySem PyProof.Rows
set_option maxRecDepth 100000
theorem sh_val {b k e : Int} {R : List Int} (hR : Lim b R) (hb1 : b ≤ 512) (hb2 : 4 ≤ b) (hl : R.length ≤ 60) (hk0 : 0 ≤ k) (hk : k ≤ 9) (he0 : 0 ≤ e) (he : e ≤ 100) : (Builtin.Int.intBits (val b R) : Int) + k * e ≤ 2 ^ 27 := by
  have h1 : k * e ≤ 9 * 100 := Int.mul_le_mul hk he he0 (by decide)
  obtain ⟨v0, v1⟩ := val_lt (by omega) hR
  have h3 : Builtin.Int.intBits (val b R) ≤ 540 := bits_le v0 (Int.lt_of_lt_of_le v1 (Int.le_trans (pow_le_two (by omega) hb1 _) (two_mono (by omega))))
  have : (2 : Int) ^ 27 = 134217728 := by decide
  omega
theorem right_zero {v : Int} (h : v = 0) : Value.bool (v == 0) = Value.bool true := by subst h; rfl
theorem right_nil {b : Int} {A B R : List Int} (h : val b R = betw b A B ((B.length : Int) - 1) A.length) (hB : decide (B = []) = true) : Value.bool (val b R == 0) = Value.bool true := by
  have := of_decide_eq_true hB
  subst this
  exact right_zero (h.trans (betw_zero (.inl rfl)))
theorem right_short {b : Int} {A B R : List Int} (h : val b R = betw b A B ((B.length : Int) - 1) A.length) (hB : (A.length : Int) < (B.length : Int) - 1) : Value.bool (val b R == 0) = Value.bool true :=
  right_zero (h.trans (betw_zero (.inr hB)))
theorem right_long {b k : Int} {A B R R1 R2 : List Int} (hb : b = 2 ^ k.toNat) (hk : 2 ≤ k) (h : val b R = betw b A B ((B.length : Int) - 1) A.length) (hn : ¬ (A.length : Int) < (B.length : Int) - 1)
    (h1 : val b R1 = highS b A B B.length A.length) (h2 : val b R2 = highS b A B ((A.length : Int) + 1) A.length) :
    val b R1 = val b R + val b R2 * 2 ^ (k * ((A.length : Int) - B.length + 1)).toNat := by
  rw [pow_mul_nat (by omega) (by omega) hb, h1, h2, h]
  exact high_split (by omega)
theorem right_ret {x y : Int} (h : x = y) : Value.bool (x == y) = Value.bool true := by subst h; simp
end PPlain9
end Mine

namespace Mine
section PPlain10
open PySem PyProof.Rows
set_option maxRecDepth 100000
theorem fm_nn {x q : Int} (h : 1 ≤ q) : 0 ≤ x.fmod q := Int.fmod_nonneg_of_pos _ (by omega)
theorem fm_lt {x q : Int} (h : 1 ≤ q) : x.fmod q < q := Int.fmod_lt_of_pos _ (by omega)
theorem top_lt {r b : Int} {n : Nat} (h : r < 1 * 2 ^ n - 1) (hb : b = 2 ^ n) : 1 + r < b := by
  rw [← hb] at h; omega
theorem low_lt {r b : Int} {n : Nat} (h : r < 1 * 2 ^ n) (hb : b = 2 ^ n) : r < b := by
  rw [← hb] at h; omega
theorem norm_one {A : List Int} {x : Int} (h : 0 < x) : Norm (A ++ [x]) := by
  right
  rw [List.getD_eq_getElem?_getD, List.getElem?_append_right (by simp)]
  simp; omega
theorem pw_hi {e : Int} (h : e ≤ 9) : (2 : Int) ^ e.toNat ≤ 512 := Int.le_trans (two_mono (m := e.toNat) (n := 9) (by omega)) (by decide)
theorem pw_lo {e : Int} (h : 2 ≤ e) : (4 : Int) ≤ 2 ^ e.toNat := Int.le_trans (by decide) (two_mono (m := 2) (n := e.toNat) (by omega))
end PPlain10
end Mine

namespace Mine
section PHd
open PySem PySem.W PyProof.Rows
set_option maxRecDepth 100000
set_option maxRecDepth 100000 in
set_option maxHeartbeats 8000000 in
open_top hd for PySem.Challenge.rw_pq0550_01
end PHd
end Mine

namespace Mine
section PBase1
open PySem PySem.W PySem.Calls PyProof.Rows
set_option maxRecDepth 100000
def ListAt (h : Heap) (l : Addr) (A : List Int) : Prop := ∃ va : List Value, h.IsList l va.toArray ∧ IntsAre va A
def Sub (H g : Heap) : Prop := ∀ b o, H.get? b = some o → g.get? b = some o
theorem Sub.refl (h : Heap) : Sub h h := fun _ _ e => e
theorem Sub.trans {a b c : Heap} (x : Sub a b) (y : Sub b c) : Sub a c := fun _ _ e => y _ _ (x _ _ e)
theorem Sub.ofG {H g : Heap} (x : GSub H g []) : Sub H g := fun b o e => x b o e (by simp)
theorem Sub.ofFr {g h : Heap} {L : Addr} {m : Str → Option Value} (F : Fr g L h m) : Sub g h := F.keep
theorem IsList.sub {H g : Heap} {l : Addr} {its : Array Value} (x : H.IsList l its) (k : Sub H g) : g.IsList l its := by
  obtain ⟨o, h1, h2⟩ := x
  exact ⟨o, k _ _ h1, h2⟩
theorem news_join {h₀ hs h' : Heap} {L l : Addr} {o : Obj} {news nx : List (Addr × Obj)} (N : News h₀ L hs news) (k : Sub hs h') (N9 : News h₀ L h' nx) (hm : (l, o) ∈ nx) : News h₀ L h' ((l, o) :: news) := by
  intro p hp
  rcases List.mem_cons.mp hp with rfl | hp
  · exact N9 _ hm
  · exact ⟨k _ _ (N p hp).1, (N p hp).2⟩
theorem mem_push {l : Addr} {vs : List Value} {v : Value} {n : Nat} {nx : List (Addr × Obj)} (h : (l, listOf ((List.toArray vs).push v) n) ∈ nx) : (l, listOf (List.toArray (vs ++ [v])) n) ∈ nx := by
  rwa [List.push_toArray] at h

/-- a call that changes nothing and hands back a new list of ints -/
def PureC (prog : Program) (w : World) (K : Frag) (p : Program) (loose : List Str) (mean : ExcName → Option Value) (mg mb : Str → Option Value) (f : Addr) (dep : Nat) (vs : List Value) (Args : Heap → Prop) (Out : List Int → Prop) : Prop :=
  ∀ (dp un : Nat) (gd : Option (List Code)) (cn : Str) (cs : Scope) (a : Addr) (ccd : Value) (cl : List (Str × Addr)) (outer : List Env) (A₀ : Around) (base h₀ : Heap) (L : Addr) (m : Str → Option Value) (news : List (Addr × Obj)) (s : Shared) (Q E : Value → Shared → Prop),
    Below A₀ base outer h₀ → Fr h₀ L s.heap m → K.In h₀ → News h₀ L s.heap news → Top p loose mean mg mb h₀ → cs.kind = .function → Args s.heap → dp + dep < recursionLimit → un + 8 * dep < cLine →
    (∀ l vr R n h' tk', Fr h₀ L h' m → News h₀ L h' ((l, listOf (List.toArray vr) n) :: news) → Sub s.heap h' → (∀ p ∈ news, p.1 ≠ l) → IntsAre vr R → Out R → Q (.ref l) { s with heap := h', toks := tk' }) →
    wpAny (model prog w) (ktrTop dp un gd cn cs L a ccd cl outer) (call (.ref f) vs) Q E s

theorem PureC.of {prog : Program} {w : World} {K : Frag} {p : Program} {loose : List Str} {mean : ExcName → Option Value} {mg mb : Str → Option Value} {f : Addr} {dep : Nat} {vs : List Value} {Args : Heap → Prop} {Out : List Int → Prop}
    (H : ∀ (dp un : Nat) (gd : Option (List Code)) (cn : Str) (cs : Scope) (a : Addr) (ccd : Value) (cl : List (Str × Addr)) (outer : List Env) (A₀ : Around) (base h₀ : Heap) (L : Addr) (m : Str → Option Value) (s : Shared) (Q E : Value → Shared → Prop),
      Below A₀ base outer h₀ → Fr h₀ L s.heap m → K.In h₀ → News h₀ L s.heap [] → Top p loose mean mg mb h₀ → cs.kind = .function → Args s.heap → dp + dep < recursionLimit → un + 8 * dep < cLine →
      (∀ g L1 m1 l vr R n h' tk' nx, Sub s.heap g → Fr h₀ L h' m → News h₀ L h' nx → Fr g L1 h' m1 → News g L1 h' nx → (l, listOf (List.toArray vr) n) ∈ nx → IntsAre vr R → Out R → Q (.ref l) { s with heap := h', toks := tk' }) →
      wpAny (model prog w) (ktrTop dp un gd cn cs L a ccd cl outer) (call (.ref f) vs) Q E s) :
    PureC prog w K p loose mean mg mb f dep vs Args Out := by
  intro dp un gd cn cs a ccd cl outer A₀ base h₀ L m news s Q E B F X N T hk hA hd hu hret
  refine H dp un gd cn cs a ccd cl outer A₀ base h₀ L m s Q E B F X News.nil T hk hA hd hu ?_
  intro g L1 m1 l vr R n h' tk' nx hg F' N' F1 N1 hm hi ho
  refine hret l vr R n h' tk' F' (news_join N (Sub.trans hg F1.keep) N' hm) (Sub.trans hg F1.keep) (fun p hp e => ?_) hi ho
  have h1 := hg _ _ (N p hp).1
  rw [e, (N1 _ hm).2.2] at h1
  cases h1

theorem PureC.use {prog : Program} {w : World} {K : Frag} {p : Program} {loose : List Str} {mean : ExcName → Option Value} {mg mb : Str → Option Value} {f : Addr} {dep : Nat} {vs : List Value} {Args : Heap → Prop} {Out : List Int → Prop}
    {dp un : Nat} {gd : Option (List Code)} {cn : Str} {cs : Scope} {a : Addr} {ccd : Value} {cl : List (Str × Addr)} {outer : List Env} {A₀ : Around} {base h₀ : Heap} {L : Addr} {m : Str → Option Value} {news : List (Addr × Obj)} {s : Shared} {Q E : Value → Shared → Prop}
    (B : Below A₀ base outer h₀) (F : Fr h₀ L s.heap m) (X : K.In h₀) (N : News h₀ L s.heap news) (T : Top p loose mean mg mb h₀) (hk : cs.kind = .function)
    (C : PureC prog w K p loose mean mg mb f dep vs Args Out) (hA : Args s.heap) (hd : dp + dep < recursionLimit) (hu : un + 8 * dep < cLine)
    (ret : ∀ l vr R n h' tk', Fr h₀ L h' m → News h₀ L h' ((l, listOf (List.toArray vr) n) :: news) → Sub s.heap h' → (∀ p ∈ news, p.1 ≠ l) → IntsAre vr R → Out R → Q (.ref l) { s with heap := h', toks := tk' }) :
    wpAny (model prog w) (ktrTop dp un gd cn cs L a ccd cl outer) (call (.ref f) vs) Q E s := C _ _ _ _ _ _ _ _ _ _ _ _ _ _ _ _ _ _ B F X N T hk hA hd hu ret

theorem all_ne {l : Addr} {news : List (Addr × Obj)} (h : ∀ p ∈ news, p.1 ≠ l) : ∀ p ∈ news, p.1 ≠ l := h
theorem PureC.weaken {prog : Program} {w : World} {K : Frag} {p : Program} {loose : List Str} {mean : ExcName → Option Value} {mg mb : Str → Option Value} {f : Addr} {dep : Nat} {vs : List Value} {Args Args' : Heap → Prop} {Out Out' : List Int → Prop}
    (C : PureC prog w K p loose mean mg mb f dep vs Args Out) (hA : ∀ h, Args' h → Args h) (hO : ∀ h R, Args' h → Out R → Out' R) : PureC prog w K p loose mean mg mb f dep vs Args' Out' := by
  intro dp un gd cn cs a ccd cl outer A₀ base h₀ L m news s Q E B F X N T hk hA' hd hu hret
  exact C dp un gd cn cs a ccd cl outer A₀ base h₀ L m news s Q E B F X N T hk (hA _ hA') hd hu fun l vr R n h' tk' F' N' hs hl hi ho => hret l vr R n h' tk' F' N' hs hl hi (hO _ _ hA' ho)

/-- a turn's end in a loop over a range that binds the name y to a new list of ints each turn -/
def RbEnd (h₀ : Heap) (L : Addr) (x y : Str) (stored : List Str) (m₀ : Str → Option Value) (P : List Int → Prop) (own : List (Addr × Obj)) (s₁ s₂ : Shared) : Prop :=
  ∃ h' tk m' news' l vs ns nn, s₂ = { s₁ with heap := h', toks := tk } ∧ Fr h₀ L h' m' ∧ News h₀ L h' news' ∧ (l, listOf (List.toArray vs) nn) ∈ news' ∧ (∀ p ∈ own, p ∈ news') ∧ (∀ p ∈ own, p.1 ≠ l) ∧ IntsAre vs ns ∧ m' y = some (.ref l) ∧
    (∀ z, z ≠ x → (∀ p ∈ [(y, Value.ref l)], z ≠ p.1) → stored.contains z = false → m' z = m₀ z) ∧ P ns
def RbPost (h₀ : Heap) (L : Addr) (x y : Str) (stored : List Str) (m₀ : Str → Option Value) (P : List Int → Prop) (own : List (Addr × Obj)) (s₁ : Shared) (f : Flow) (s₂ : Shared) : Prop :=
  match f with
  | .ret _ => False
  | .brk => False
  | _ => RbEnd h₀ L x y stored m₀ P own s₁ s₂

section
variable {prog : Program} {w : World} {A : Around} {E : Value → Shared → Prop} {s : Shared} {env : Env} {h₀ : Heap} {x : Str} {body : List Stmt} {Q : Flow → Shared → Prop}
theorem rb_range {r : Addr} {b₀ : Int} {t₀ u₀ v₀ : Tok} {n : Nat} {m₀ : Str → Option Value} {news : List (Addr × Obj)} {l₀ : Addr} {vs₀ : List Value} {ns₀ : List Int} {n₀ : Nat} (y : Str) (stored : List Str) (P : Nat → List Int → Prop)
    (hh : A.handled = none) (hr : IsRange s.heap r 0 b₀ 1 t₀ u₀ v₀) (hsmall : Builtin.Range.small 0 b₀ 1 = true) (hsz : Builtin.Range.rangeSize 0 b₀ 1 = (n : Int)) (F : Fr h₀ env.locals s.heap m₀) (N : News h₀ env.locals s.heap news)
    (hy : m₀ y = some (.ref l₀)) (hm : (l₀, listOf (List.toArray vs₀) n₀) ∈ news) (hi : IntsAre vs₀ ns₀) (hp : P 0 ns₀) (hyx : y ≠ x)
    (turn : ∀ (i : Nat) l vs ns nn t (u : Str → Option Value) h tk own, i < n → (∀ p ∈ own, p.1 ≠ l) → IntsAre vs ns → P i ns →
      Fr h₀ env.locals h (fun z => if z = x then some (.int (i : Int) t) else if z = y then some (.ref l) else if stored.contains z then u z else m₀ z) → News h₀ env.locals h ((l, listOf (List.toArray vs) nn) :: own) →
      wpAny (model prog w) A (execs body env) (RbPost h₀ env.locals x y stored m₀ (P (i + 1)) own { s with heap := h, toks := tk }) E { s with heap := h, toks := tk })
    (done : ∀ l vs ns nn (u : Str → Option Value) h tk, IntsAre vs ns → P n ns → Fr h₀ env.locals h (fun z => if z = x then u z else if z = y then some (.ref l) else if stored.contains z then u z else m₀ z) → News h₀ env.locals h [(l, listOf (List.toArray vs) nn)] → Q .next { s with heap := h, toks := tk }) :
    wpAny (model prog w) A (pyIter (.ref r)) (fun it s₂ => LoopAtV prog w A h₀ env x body Q E it s₂) E s := by
  have N0 : News h₀ env.locals s.heap [(l₀, listOf (List.toArray vs₀) n₀)] := fun p hp => N p (by rw [List.mem_singleton.mp hp]; exact hm)
  refine wpAny_pyIter_range hr hsmall ?_
  have W : Walks prog w A s.heap.objs.size [s.heap.objs.size] [s.heap.objs.size] n (fun i v => i < n ∧ ∃ t, v = .int (0 + i * 1) t)
      (fun i h => IsRangeIter h s.heap.objs.size (0 + (i : Nat) * 1) ((n : Int) - (i : Nat)) 1) := (Walks.range hh _ 0 1 n).bound
  refine kdr_loop (news := [(l₀, listOf (List.toArray vs₀) n₀)]) (fun i m nx => ∃ l vs ns nn, nx = [(l, listOf (List.toArray vs) nn)] ∧ IntsAre vs ns ∧ m y = some (.ref l) ∧ (∀ z, z ≠ x → z ≠ y → stored.contains z = false → m z = m₀ z) ∧ P i ns) W (fun _ h => h) (fun _ h => h) ?_ ?_ ?_ ?_ (by show IsRangeIter _ _ _ _ _; rw [hsz]; simpa using Heap.get?_push_size _ rfl) (F.push _) (fun p hp => ⟨Heap.get?_push_of_some _ (N0 p hp).1, (N0 p hp).2⟩) ⟨l₀, vs₀, ns₀, n₀, rfl, hi, hy, fun _ _ _ _ => rfl, hp⟩ ?_ ?_
  · intro i h hi b hb
    rw [List.mem_singleton.mp hb]
    exact ⟨_, hi⟩
  · intro hm
    exact absurd F.ns.lt ((List.mem_singleton.mp hm) ▸ Nat.lt_irrefl _)
  · intro b hb
    rw [List.mem_singleton.mp hb]
    exact next_is_new F
  · intro p hp hI
    exact absurd (Heap.lt_size (N0 p hp).1) ((List.mem_singleton.mp hI) ▸ Nat.lt_irrefl _)
  · rintro i v m₁ nx h tk own hi ⟨_, t, rfl⟩ hoff ⟨l, vs, ns, nn, rfl, hI, hy1, hz, hP⟩ F₁ N₁
    have e1 : 0 + (i : Int) * 1 = (i : Int) := by omega
    rw [e1] at F₁
    have em : (fun z => if z = x then some (Value.int (i : Int) t) else if z = y then some (.ref l) else if stored.contains z then m₁ z else m₀ z) = fun z => if z = x then some (Value.int (i : Int) t) else m₁ z := by
      funext z
      by_cases h1 : z = x
      · simp only [h1, if_true]
      · simp only [if_neg h1]
        by_cases h2 : z = y
        · simp only [h2, if_true]; exact hy1.symm
        · simp only [if_neg h2]
          cases h3 : stored.contains z with
          | true => rfl
          | false => exact (hz z h1 h2 h3).symm
    refine wpAny_mono (turn i l vs ns nn t m₁ h tk own hi (fun p hp => hoff p hp l (by simp)) hI hP (em ▸ F₁) (by simpa using N₁)) (fun f s₂ p => ?_) fun _ _ x => x
    have up : RbEnd h₀ env.locals x y stored m₀ (P (i + 1)) own { s with heap := h, toks := tk } s₂ → InvEndG h₀ env.locals (fun m nx => ∃ l vs ns nn, nx = [(l, listOf (List.toArray vs) nn)] ∧ IntsAre vs ns ∧ m y = some (.ref l) ∧ (∀ z, z ≠ x → z ≠ y → stored.contains z = false → m z = m₀ z) ∧ P (i + 1) ns) own { s with heap := h, toks := tk } s₂ := by
      rintro ⟨h', tk', m', news', l', vs', ns', nn', rfl, F', N', hm', ho, hne, hI', hy', hz', hP'⟩
      refine ⟨h', tk', m', news', [(l', listOf (List.toArray vs') nn')], rfl, F', N', fun p hp => by rw [List.mem_singleton.mp hp]; exact hm', ho, ?_, l', vs', ns', nn', rfl, hI', hy', fun z h1 h2 h3 => hz' z h1 (by simpa using h2) h3, hP'⟩
      intro p hp b hb
      simp only [List.map_cons, List.map_nil, List.mem_singleton] at hb
      rw [hb]; exact hne p hp
    cases f with
    | ret v => exact p.elim
    | brk => exact p.elim
    | next => exact up p
    | cont => exact up p
  · rintro m₁ nx h tk ⟨l, vs, ns, nn, rfl, hI, hy1, hz, hP⟩ F₁ N₁
    have em : (fun z => if z = x then m₁ z else if z = y then some (.ref l) else if stored.contains z then m₁ z else m₀ z) = m₁ := by
      funext z
      by_cases h1 : z = x
      · simp only [h1, if_true]
      · simp only [if_neg h1]
        by_cases h2 : z = y
        · simp only [h2, if_true]; exact hy1.symm
        · simp only [if_neg h2]
          cases h3 : stored.contains z with
          | true => rfl
          | false => exact (hz z h1 h2 h3).symm
    exact done l vs ns nn m₁ h tk hI hP (em.symm ▸ F₁) N₁
end
end PBase1
end Mine

namespace Mine
section PBase2
open PySem PySem.W PySem.Calls PyProof.Rows
set_option maxRecDepth 100000
/-- a call that changes nothing and hands back a plain value -/
def PureV (prog : Program) (w : World) (K : Frag) (p : Program) (loose : List Str) (mean : ExcName → Option Value) (mg mb : Str → Option Value) (f : Addr) (dep : Nat) (vs : List Value) (Args : Heap → Prop) (Out : Value → Prop) : Prop :=
  ∀ (dp un : Nat) (gd : Option (List Code)) (cn : Str) (cs : Scope) (a : Addr) (ccd : Value) (cl : List (Str × Addr)) (outer : List Env) (A₀ : Around) (base h₀ : Heap) (L : Addr) (m : Str → Option Value) (news : List (Addr × Obj)) (s : Shared) (Q E : Value → Shared → Prop),
    Below A₀ base outer h₀ → Fr h₀ L s.heap m → K.In h₀ → News h₀ L s.heap news → Top p loose mean mg mb h₀ → cs.kind = .function → Args s.heap → dp + dep < recursionLimit → un + 8 * dep < cLine →
    (∀ v h' tk', Fr h₀ L h' m → News h₀ L h' news → Sub s.heap h' → Out v → Q v { s with heap := h', toks := tk' }) →
    wpAny (model prog w) (ktrTop dp un gd cn cs L a ccd cl outer) (call (.ref f) vs) Q E s

theorem PureV.of {prog : Program} {w : World} {K : Frag} {p : Program} {loose : List Str} {mean : ExcName → Option Value} {mg mb : Str → Option Value} {f : Addr} {dep : Nat} {vs : List Value} {Args : Heap → Prop} {Out : Value → Prop}
    (H : ∀ (dp un : Nat) (gd : Option (List Code)) (cn : Str) (cs : Scope) (a : Addr) (ccd : Value) (cl : List (Str × Addr)) (outer : List Env) (A₀ : Around) (base h₀ : Heap) (L : Addr) (m : Str → Option Value) (s : Shared) (Q E : Value → Shared → Prop),
      Below A₀ base outer h₀ → Fr h₀ L s.heap m → K.In h₀ → News h₀ L s.heap [] → Top p loose mean mg mb h₀ → cs.kind = .function → Args s.heap → dp + dep < recursionLimit → un + 8 * dep < cLine →
      (∀ g L1 m1 v h' tk', Sub s.heap g → Fr h₀ L h' m → Fr g L1 h' m1 → Out v → Q v { s with heap := h', toks := tk' }) →
      wpAny (model prog w) (ktrTop dp un gd cn cs L a ccd cl outer) (call (.ref f) vs) Q E s) :
    PureV prog w K p loose mean mg mb f dep vs Args Out := by
  intro dp un gd cn cs a ccd cl outer A₀ base h₀ L m news s Q E B F X N T hk hA hd hu hret
  refine H dp un gd cn cs a ccd cl outer A₀ base h₀ L m s Q E B F X News.nil T hk hA hd hu ?_
  intro g L1 m1 v h' tk' hg F' F1 ho
  refine hret v h' tk' F' (fun p hp => ⟨F1.keep _ _ (hg _ _ (N p hp).1), (N p hp).2⟩) (Sub.trans hg F1.keep) ho

theorem PureV.use {prog : Program} {w : World} {K : Frag} {p : Program} {loose : List Str} {mean : ExcName → Option Value} {mg mb : Str → Option Value} {f : Addr} {dep : Nat} {vs : List Value} {Args : Heap → Prop} {Out : Value → Prop}
    {dp un : Nat} {gd : Option (List Code)} {cn : Str} {cs : Scope} {a : Addr} {ccd : Value} {cl : List (Str × Addr)} {outer : List Env} {A₀ : Around} {base h₀ : Heap} {L : Addr} {m : Str → Option Value} {news : List (Addr × Obj)} {s : Shared} {Q E : Value → Shared → Prop}
    (B : Below A₀ base outer h₀) (F : Fr h₀ L s.heap m) (X : K.In h₀) (N : News h₀ L s.heap news) (T : Top p loose mean mg mb h₀) (hk : cs.kind = .function)
    (C : PureV prog w K p loose mean mg mb f dep vs Args Out) (hA : Args s.heap) (hd : dp + dep < recursionLimit) (hu : un + 8 * dep < cLine)
    (ret : ∀ v h' tk', Fr h₀ L h' m → News h₀ L h' news → Sub s.heap h' → Out v → Q v { s with heap := h', toks := tk' }) :
    wpAny (model prog w) (ktrTop dp un gd cn cs L a ccd cl outer) (call (.ref f) vs) Q E s := C _ _ _ _ _ _ _ _ _ _ _ _ _ _ _ _ _ _ B F X N T hk hA hd hu ret
end PBase2
end Mine

namespace Mine
section PBase3
open PySem PySem.W PySem.Calls PyProof.Rows
set_option maxRecDepth 100000
/-- a turn's end in a loop over enumerate that stores the int name y -/
def EnEnd (h₀ : Heap) (L : Addr) (xi xc y : Str) (stored : List Str) (m₀ : Str → Option Value) (P : Int → Prop) (own : List (Addr × Obj)) (s₁ s₂ : Shared) : Prop :=
  ∃ h' tk m' news' f t, s₂ = { s₁ with heap := h', toks := tk } ∧ Fr h₀ L h' m' ∧ News h₀ L h' news' ∧ (∀ p ∈ own, p ∈ news') ∧ m' y = some (.int f t) ∧
    (∀ z, z ≠ xi → (∀ p ∈ [(xc, Value.none), (y, Value.none)], z ≠ p.1) → stored.contains z = false → m' z = m₀ z) ∧ P f
def EnPost (h₀ : Heap) (L : Addr) (xi xc y : Str) (stored : List Str) (m₀ : Str → Option Value) (P : Int → Prop) (own : List (Addr × Obj)) (s₁ : Shared) (f : Flow) (s₂ : Shared) : Prop :=
  match f with
  | .ret _ => False
  | .brk => False
  | _ => EnEnd h₀ L xi xc y stored m₀ P own s₁ s₂

section
variable {prog : Program} {w : World} {A : Around} {E : Value → Shared → Prop} {s : Shared} {env : Env} {h₀ : Heap} {xi xc : Str} {body : List Stmt} {Q : Flow → Shared → Prop}
theorem en_loop {L : Addr} {as : List Int} {xv : Value} {m₀ : Str → Option Value} {news : List (Addr × Obj)} {f₀ : Int} {t₀ : Tok} (y : Str) (stored : List Str) (P : Nat → Int → Prop)
    (S : PairSrcL prog w A E h₀ L ItemKind.int as xv s m₀ news) (hL : env.locals = L)
    (hy : m₀ y = some (.int f₀ t₀)) (hp : P 0 f₀) (hyi : y ≠ xi) (hyc : y ≠ xc)
    (turn : ∀ (i : Nat) x t tx f tf (u : Str → Option Value) h tk own, as[i]? = some x → P i f →
      Fr h₀ env.locals h (fun z => if z = xc then some (.int x tx) else if z = xi then some (.int (i : Int) t) else if z = y then some (.int f tf) else if stored.contains z then u z else m₀ z) → News h₀ env.locals h own →
      wpAny (model prog w) A (execs body env) (EnPost h₀ env.locals xi xc y stored m₀ (P (i + 1)) own { s with heap := h, toks := tk }) E { s with heap := h, toks := tk })
    (done : ∀ f tf (u : Str → Option Value) h tk, P as.length f → Fr h₀ env.locals h (fun z => if z = xc then u z else if z = xi then u z else if z = y then some (.int f tf) else if stored.contains z then u z else m₀ z) → News h₀ env.locals h news → Q .next { s with heap := h, toks := tk }) :
    wpAny (model prog w) A (pyIter xv) (fun it s₂ => PairAt3 prog w A h₀ env xi xc body Q E it s₂) E s := by
  refine S.at env hL xi xc body Q (fun i m nx => nx = news ∧ ∃ f t, m y = some (.int f t) ∧ (∀ z, z ≠ xi → z ≠ xc → z ≠ y → stored.contains z = false → m z = m₀ z) ∧ P i f) ⟨rfl, f₀, t₀, hy, fun _ _ _ _ _ => rfl, hp⟩ ?_ ?_
  · rintro i x t v m₁ nx s₁ own ⟨h, tk, rfl⟩ hx ⟨tx, rfl⟩ ⟨rfl, f, tf, hy1, hz, hP⟩ _ _ F₁ N₁
    have em : (fun z => if z = xc then some (Value.int x tx) else if z = xi then some (.int (i : Int) t) else m₁ z) = fun z => if z = xc then some (Value.int x tx) else if z = xi then some (.int (i : Int) t) else if z = y then some (.int f tf) else if stored.contains z then m₁ z else m₀ z := by
      funext z
      by_cases h1 : z = xc
      · simp only [h1, if_true]
      · simp only [if_neg h1]
        by_cases h2 : z = xi
        · simp only [h2, if_true]
        · simp only [if_neg h2]
          by_cases h3 : z = y
          · simp only [h3, if_true]; exact hy1
          · simp only [if_neg h3]
            cases h4 : stored.contains z with
            | true => rfl
            | false => exact hz z h2 h1 h3 h4
    rw [em] at F₁
    refine wpAny_mono (turn i x t tx f tf m₁ h tk (own ++ nx) hx hP F₁ N₁) (fun g s₂ p => ?_) fun _ _ x => x
    have up : EnEnd h₀ env.locals xi xc y stored m₀ (P (i + 1)) (own ++ nx) { s with heap := h, toks := tk } s₂ → LoopStep2 h₀ env.locals own nx (fun m n' => n' = nx ∧ ∃ f t, m y = some (.int f t) ∧ (∀ z, z ≠ xi → z ≠ xc → z ≠ y → stored.contains z = false → m z = m₀ z) ∧ P (i + 1) f) { s with heap := h, toks := tk } .next s₂ := by
      rintro ⟨h', tk', m', news', f', t', rfl, F', N', ho, hy', hz', hP'⟩
      refine ⟨rfl, h', tk', m', nx, rfl, F', fun p hp => N' p (ho p hp), rfl, rfl, f', t', hy', fun z h1 h2 h3 h4 => hz' z h1 (fun p hp => ?_) h4, hP'⟩
      simp only [List.mem_cons, List.not_mem_nil, or_false] at hp
      rcases hp with rfl | rfl
      · exact h2
      · exact h3
    cases g with
    | ret v => exact p.elim
    | brk => exact p.elim
    | next => exact up p
    | cont => exact up p
  · rintro h tk m₁ nx F₁ N₁ _ ⟨rfl, f, tf, hy1, hz, hP⟩
    have em : m₁ = fun z => if z = xc then m₁ z else if z = xi then m₁ z else if z = y then some (.int f tf) else if stored.contains z then m₁ z else m₀ z := by
      funext z
      by_cases h1 : z = xc
      · simp only [h1, if_true]
      · simp only [if_neg h1]
        by_cases h2 : z = xi
        · simp only [h2, if_true]
        · simp only [if_neg h2]
          by_cases h3 : z = y
          · simp only [h3, if_true]; exact hy1
          · simp only [if_neg h3]
            cases h4 : stored.contains z with
            | true => rfl
            | false => exact hz z h2 h1 h3 h4
    exact done f tf m₁ h tk hP (em ▸ F₁) N₁
end
end PBase3
end Mine

namespace Mine
section PBase4
open PySem PySem.W PySem.Calls PyProof.Rows
set_option maxRecDepth 100000
/-- all but the object at sk is kept -/
def But (sk : Addr) (H g : Heap) : Prop := ∀ b o, b ≠ sk → H.get? b = some o → g.get? b = some o
theorem But.ofG {sk : Addr} {o : Obj} {H g : Heap} (x : GSub H g ([(sk, o)].map (·.1))) : But sk H g := fun b o' hb e => x b o' e (by simpa using hb)
theorem But.trans {sk : Addr} {a b c : Heap} (x : But sk a b) (y : Sub b c) : But sk a c := fun _ _ h e => y _ _ (x _ _ h e)
theorem IsList.but {sk : Addr} {H g : Heap} {l : Addr} {its : Array Value} (x : H.IsList l its) (k : But sk H g) (h : l ≠ sk) : g.IsList l its := by
  obtain ⟨o, h1, h2⟩ := x
  exact ⟨o, k _ _ h h1, h2⟩
theorem ListAt.but {sk : Addr} {H g : Heap} {l : Addr} {A : List Int} (x : ListAt H l A) (k : But sk H g) (h : l ≠ sk) : ListAt g l A := by
  obtain ⟨va, h1, h2⟩ := x
  exact ⟨va, IsList.but h1 k h, h2⟩
/-- a call that turns the one object at sk and hands back a plain value -/
def TurnC (prog : Program) (w : World) (K : Frag) (p : Program) (loose : List Str) (mean : ExcName → Option Value) (mg mb : Str → Option Value) (f : Addr) (dep : Nat) (vs : List Value) (sk : Addr) (o : Obj) (Args : Heap → Prop) (Out : Value → Obj → Prop) : Prop :=
  ∀ (dp un : Nat) (gd : Option (List Code)) (cn : Str) (cs : Scope) (a : Addr) (ccd : Value) (cl : List (Str × Addr)) (outer : List Env) (A₀ : Around) (base h₀ : Heap) (L : Addr) (m : Str → Option Value) (s : Shared) (Q E : Value → Shared → Prop),
    Below A₀ base outer h₀ → Fr h₀ L s.heap m → K.In h₀ → News h₀ L s.heap [(sk, o)] → Top p loose mean mg mb h₀ → cs.kind = .function → Args s.heap → dp + dep < recursionLimit → un + 8 * dep < cLine →
    (∀ v o' h' tk', Fr h₀ L h' m → News h₀ L h' [(sk, o')] → But sk s.heap h' → Out v o' → Q v { s with heap := h', toks := tk' }) →
    wpAny (model prog w) (ktrTop dp un gd cn cs L a ccd cl outer) (call (.ref f) vs) Q E s
theorem news_turn {h₀ hs h' : Heap} {L sk : Addr} {o o' : Obj} {pre post : List (Addr × Obj)} (N : News h₀ L hs (pre ++ (sk, o) :: post)) (hp : ∀ p ∈ pre ++ post, p.1 ≠ sk) (k : But sk hs h') (N9 : News h₀ L h' [(sk, o')]) : News h₀ L h' (pre ++ (sk, o') :: post) := by
  intro p hm
  rcases List.mem_append.mp hm with h | h
  · have q := N p (List.mem_append.mpr (.inl h))
    exact ⟨k _ _ (hp p (List.mem_append.mpr (.inl h))) q.1, q.2⟩
  · rcases List.mem_cons.mp h with rfl | h
    · exact N9 _ (.head _)
    · have q := N p (List.mem_append.mpr (.inr (.tail _ h)))
      exact ⟨k _ _ (hp p (List.mem_append.mpr (.inr h))) q.1, q.2⟩
theorem TurnC.use {prog : Program} {w : World} {K : Frag} {p : Program} {loose : List Str} {mean : ExcName → Option Value} {mg mb : Str → Option Value} {f : Addr} {dep : Nat} {vs : List Value} {sk : Addr} {o : Obj} {Args : Heap → Prop} {Out : Value → Obj → Prop}
    {dp un : Nat} {gd : Option (List Code)} {cn : Str} {cs : Scope} {a : Addr} {ccd : Value} {cl : List (Str × Addr)} {outer : List Env} {A₀ : Around} {base h₀ : Heap} {L : Addr} {m : Str → Option Value} {s : Shared} {Q E : Value → Shared → Prop} (pre post : List (Addr × Obj))
    (B : Below A₀ base outer h₀) (F : Fr h₀ L s.heap m) (X : K.In h₀) (N : News h₀ L s.heap (pre ++ (sk, o) :: post)) (T : Top p loose mean mg mb h₀) (hk : cs.kind = .function) (hp : ∀ p ∈ pre ++ post, p.1 ≠ sk)
    (C : TurnC prog w K p loose mean mg mb f dep vs sk o Args Out) (hA : Args s.heap) (hd : dp + dep < recursionLimit) (hu : un + 8 * dep < cLine)
    (ret : ∀ v o' h' tk', Fr h₀ L h' m → News h₀ L h' (pre ++ (sk, o') :: post) → But sk s.heap h' → Out v o' → Q v { s with heap := h', toks := tk' }) :
    wpAny (model prog w) (ktrTop dp un gd cn cs L a ccd cl outer) (call (.ref f) vs) Q E s :=
  C _ _ _ _ _ _ _ _ _ _ _ _ _ _ _ _ _ B F X (fun q hq => N q (by rw [List.mem_singleton.mp hq]; simp)) T hk hA hd hu fun v o' h' tk' F' N' k ho => ret v o' h' tk' F' (news_turn N hp k N') k ho
theorem TurnC.of {prog : Program} {w : World} {K : Frag} {p : Program} {loose : List Str} {mean : ExcName → Option Value} {mg mb : Str → Option Value} {f : Addr} {dep : Nat} {vs : List Value} {sk : Addr} {o : Obj} {Args : Heap → Prop} {Out : Value → Obj → Prop}
    (H : ∀ (dp un : Nat) (gd : Option (List Code)) (cn : Str) (cs : Scope) (a : Addr) (ccd : Value) (cl : List (Str × Addr)) (outer : List Env) (A₀ : Around) (base h₀ : Heap) (L : Addr) (m : Str → Option Value) (s : Shared) (Q E : Value → Shared → Prop),
      Below A₀ base outer h₀ → Fr h₀ L s.heap m → K.In h₀ → News h₀ L s.heap [(sk, o)] → Top p loose mean mg mb h₀ → cs.kind = .function → Args s.heap → dp + dep < recursionLimit → un + 8 * dep < cLine →
      (∀ g L1 m1 v o' h' tk' nx, But sk s.heap g → Fr h₀ L h' m → News h₀ L h' nx → (sk, o') ∈ nx → Fr g L1 h' m1 → Out v o' → Q v { s with heap := h', toks := tk' }) →
      wpAny (model prog w) (ktrTop dp un gd cn cs L a ccd cl outer) (call (.ref f) vs) Q E s) :
    TurnC prog w K p loose mean mg mb f dep vs sk o Args Out := by
  intro dp un gd cn cs a ccd cl outer A₀ base h₀ L m s Q E B F X N T hk hA hd hu hret
  refine H dp un gd cn cs a ccd cl outer A₀ base h₀ L m s Q E B F X N T hk hA hd hu ?_
  intro g L1 m1 v o' h' tk' nx hg F' N' hm F1 ho
  exact hret v o' h' tk' F' (fun q hq => N' q (by rw [List.mem_singleton.mp hq]; exact hm)) (hg.trans F1.keep) ho
end PBase4
end Mine

namespace Mine
section PBase5
open PySem PySem.W PySem.Calls PyProof.Rows
set_option maxRecDepth 100000
/-- a call that turns the one object at sk, reads the one at c, keeps the rest of the ledger and hands back a new list of ints -/
def TurnL (prog : Program) (w : World) (K : Frag) (p : Program) (loose : List Str) (mean : ExcName → Option Value) (mg mb : Str → Option Value) (f : Addr) (dep : Nat) (vs : List Value) (sk c : Addr) (o oc : Obj) (Args : Prop) (Out : List Int → Obj → Prop) : Prop :=
  ∀ (dp un : Nat) (gd : Option (List Code)) (cn : Str) (cs : Scope) (a : Addr) (ccd : Value) (cl : List (Str × Addr)) (outer : List Env) (A₀ : Around) (base h₀ : Heap) (L : Addr) (m : Str → Option Value) (rest : List (Addr × Obj)) (s : Shared) (Q E : Value → Shared → Prop),
    Below A₀ base outer h₀ → Fr h₀ L s.heap m → K.In h₀ → News h₀ L s.heap ((sk, o) :: (c, oc) :: rest) → Top p loose mean mg mb h₀ → cs.kind = .function → (∀ p ∈ rest, p.1 ≠ sk) → @Ne Nat c sk → Args → dp + dep < recursionLimit → un + 8 * dep < cLine →
    (∀ l vr R n o' h' tk', Fr h₀ L h' m → News h₀ L h' ((l, listOf (List.toArray vr) n) :: (sk, o') :: (c, oc) :: rest) → @Ne Nat l sk → IntsAre vr R → Out R o' → Q (.ref l) { s with heap := h', toks := tk' }) →
    wpAny (model prog w) (ktrTop dp un gd cn cs L a ccd cl outer) (call (.ref f) vs) Q E s
theorem TurnL.use {prog : Program} {w : World} {K : Frag} {p : Program} {loose : List Str} {mean : ExcName → Option Value} {mg mb : Str → Option Value} {f : Addr} {dep : Nat} {vs : List Value} {sk c : Addr} {o oc : Obj} {Args : Prop} {Out : List Int → Obj → Prop}
    {dp un : Nat} {gd : Option (List Code)} {cn : Str} {cs : Scope} {a : Addr} {ccd : Value} {cl : List (Str × Addr)} {outer : List Env} {A₀ : Around} {base h₀ : Heap} {L : Addr} {m : Str → Option Value} {s : Shared} {Q E : Value → Shared → Prop} (pre post : List (Addr × Obj))
    (B : Below A₀ base outer h₀) (F : Fr h₀ L s.heap m) (X : K.In h₀) (N : News h₀ L s.heap (pre ++ (sk, o) :: post)) (T : Top p loose mean mg mb h₀) (hk : cs.kind = .function) (hc : (c, oc) ∈ pre ++ post) (hp : ∀ p ∈ pre ++ post, p.1 ≠ sk)
    (C : TurnL prog w K p loose mean mg mb f dep vs sk c o oc Args Out) (hA : Args) (hd : dp + dep < recursionLimit) (hu : un + 8 * dep < cLine)
    (ret : ∀ l vr R n o' h' tk', Fr h₀ L h' m → News h₀ L h' ((l, listOf (List.toArray vr) n) :: (pre ++ (sk, o') :: post)) → @Ne Nat l sk → IntsAre vr R → Out R o' → Q (.ref l) { s with heap := h', toks := tk' }) :
    wpAny (model prog w) (ktrTop dp un gd cn cs L a ccd cl outer) (call (.ref f) vs) Q E s := by
  have up : ∀ q ∈ pre ++ post, q ∈ pre ++ (sk, o) :: post := fun q hq => by
    rcases List.mem_append.mp hq with h | h
    · exact List.mem_append.mpr (.inl h)
    · exact List.mem_append.mpr (.inr (.tail _ h))
  refine C dp un gd cn cs a ccd cl outer A₀ base h₀ L m (pre ++ post) s Q E B F X (fun q hq => ?_) T hk hp (hp _ hc) hA hd hu fun l vr R n o' h' tk' F' N' hl hi ho => ret l vr R n o' h' tk' F' (fun q hq => ?_) hl hi ho
  · rcases List.mem_cons.mp hq with rfl | hq
    · exact N _ (List.mem_append.mpr (.inr (.head _)))
    · rcases List.mem_cons.mp hq with rfl | hq
      · exact N _ (up _ hc)
      · exact N _ (up _ hq)
  · rcases List.mem_cons.mp hq with rfl | hq
    · exact N' _ (.head _)
    · rcases List.mem_append.mp hq with h | h
      · exact N' _ (.tail _ (.tail _ (.tail _ (List.mem_append.mpr (.inl h)))))
      · rcases List.mem_cons.mp h with rfl | h
        · exact N' _ (.tail _ (.head _))
        · exact N' _ (.tail _ (.tail _ (.tail _ (List.mem_append.mpr (.inr h)))))
end PBase5
end Mine

namespace Mine
section PBase6
open PySem PySem.W PySem.Calls PyProof.Rows
set_option maxRecDepth 100000
abbrev sackObj (k : Int) (t : Tok) (c : Addr) : Obj := listOf #[.int k t, .ref c] 0
theorem news_sub {h₀ h : Heap} {L : Addr} {X Y : List (Addr × Obj)} (N : News h₀ L h X) (s : ∀ p ∈ Y, p ∈ X) : News h₀ L h Y := fun p hp => N p (s p hp)
section
variable {prog : Program} {w : World} {A : Around} {s : Shared} {h₀ : Heap} {L : Addr} {m : Str → Option Value} {env : Env}
theorem IntsAre.snoc {vs : List Value} {ns : List Int} (h : IntsAre vs ns) (r : Int) (t : Tok) : IntsAre (vs ++ [.int r t]) (ns ++ [r]) := IntsAre.append h (.cons r t .nil)
/-- a comprehension whose element turns the object at sk by one -/
theorem cr_take {elt : Expr} {x : Str} {scope : Scope} {cl : List (Str × Addr)} {P : Nat → Value → Prop} {Fin : List Value → List (Addr × Obj) → Prop} {sk c : Addr} {b : Int} (pre post : List (Addr × Obj))
    (turn : ∀ kk t v I oI C oC D ys m₂ h tk (E' : Value → Shared → Prop), 0 ≤ kk → kk < 90 → LCg.NsObj oC m₂ → m₂ x = some v → Fr h₀ L h m → News h₀ L h ((I, oI) :: (C, oC) :: (D, LCg.lst ys) :: (pre ++ (sk, sackObj kk t c) :: post)) → LCg.Off3 I C D (pre ++ (sk, sackObj kk t c) :: post) → ((@Ne Nat I C) ∧ (@Ne Nat I D) ∧ (@Ne Nat C D)) →
      wpAny (model prog w) A (eval elt (compEnvC scope cl C env)) (LCg.CompEnd h₀ L m { s with heap := h, toks := tk } I oI C oC D (LCg.lst ys) (fun _ => True) (fun y news' => ∃ r t1 t2, y = .int r t1 ∧ 0 ≤ r ∧ r < b ∧ news' = pre ++ (sk, sackObj (kk + 1) t2 c) :: post)) E' { s with heap := h, toks := tk }) :
    ∀ (n i : Nat) (ys : List Value) (ns : List Int) (kk : Int) (t : Tok), 0 ≤ kk → kk + n < 90 → IntsAre ys ns → Lim b ns →
      (∀ ys' ns' kk' t', IntsAre ys' ns' → Lim b ns' → ns'.length = ns.length + n → kk' = kk + n → Fin ys' (pre ++ (sk, sackObj kk' t' c) :: post)) →
      LCg.CompRest prog w A h₀ L m env elt x scope cl s (fun _ => True) P Fin n i ys (pre ++ (sk, sackObj kk t c) :: post)
  | 0, _, ys, ns, kk, t, _, _, hI, hL, fin => LCg.CompRest.zero (fin ys ns kk t hI hL (by simp) (by simp))
  | n + 1, i, ys, ns, kk, t, h0, h1, hI, hL, fin => by
    refine LCg.CompRest.succ fun v I oI C oC D m₂ h tk E' _ hns hx F N off ne => ?_
    refine wpAny_mono (turn kk t v I oI C oC D ys m₂ h tk E' h0 (by omega) hns hx F N off ne) (fun y s₂ p => ?_) fun _ _ z => z
    obtain ⟨h', tk', news', e, F', N', off', hS, r, t1, t2, rfl, hr0, hr1, rfl⟩ := p
    refine ⟨h', tk', _, e, F', N', off', hS, ?_⟩
    refine cr_take pre post turn n (i + 1) _ (ns ++ [r]) (kk + 1) t2 (by omega) (by omega) (Mine.IntsAre.snoc hI r t1) (lim_append hL (lim_one hr0 hr1)) fun ys' ns' kk' t' hI' hL' hl hk => fin ys' ns' kk' t' hI' hL' (by rw [hl, List.length_append, List.length_singleton]; omega) (by omega)
theorem cr_go {elt : Expr} {x : Str} {scope : Scope} {cl : List (Str × Addr)} {P : Nat → Value → Prop} {Fin : List Value → List (Addr × Obj) → Prop} {sk c : Addr} {kk : Int} {t : Tok} {n : Nat} {p1 p2 : Addr × Obj} {post : List (Addr × Obj)} (b : Int)
    (h0 : 0 ≤ kk) (h1 : kk + n < 90)
    (turn : ∀ kk t v I oI C oC D ys m₂ h tk (E' : Value → Shared → Prop), 0 ≤ kk → kk < 90 → LCg.NsObj oC m₂ → m₂ x = some v → Fr h₀ L h m → News h₀ L h ((I, oI) :: (C, oC) :: (D, LCg.lst ys) :: p1 :: p2 :: (sk, listOf #[.int kk t, .ref c] 0) :: post) → LCg.Off3 I C D (p1 :: p2 :: (sk, listOf #[.int kk t, .ref c] 0) :: post) → ((@Ne Nat I C) ∧ (@Ne Nat I D) ∧ (@Ne Nat C D)) →
      wpAny (model prog w) A (eval elt (compEnvC scope cl C env)) (LCg.CompEnd h₀ L m { s with heap := h, toks := tk } I oI C oC D (LCg.lst ys) (fun _ => True) (fun y news' => ∃ r t1 t2, y = .int r t1 ∧ 0 ≤ r ∧ r < b ∧ news' = p1 :: p2 :: (sk, listOf #[.int (kk + 1) t2, .ref c] 0) :: post)) E' { s with heap := h, toks := tk })
    (fin : ∀ ys' ns' kk' t', IntsAre ys' ns' → Lim b ns' → ns'.length = n → kk' = kk + n → Fin ys' (p1 :: p2 :: (sk, listOf #[.int kk' t', .ref c] 0) :: post)) :
    LCg.CompRest prog w A h₀ L m env elt x scope cl s (fun _ => True) P Fin n 0 [] (p1 :: p2 :: (sk, listOf #[.int kk t, .ref c] 0) :: post) :=
  cr_take [p1, p2] post turn n 0 [] [] kk t h0 h1 .nil lim_nil fun ys' ns' kk' t' hI' hL' hl hk => fin ys' ns' kk' t' hI' hL' (by simpa using hl) hk
end
end PBase6
end Mine

namespace Mine
section PBase7
open PySem PySem.W PySem.Calls PyProof.Rows PyProof.V PySem.Spec PySem.SeqAt
set_option maxRecDepth 100000
abbrev pairObj (x y : Value) : Obj := { cls := .type "tuple", data := .seq #[x, y] }
theorem shaped_pair (A B : List Int) : shaped (.tuple [.list (A.map PyData.int), .list (B.map PyData.int)]) = true := by
  have h1 := PySem.W.depthAll_ints A
  have h2 := PySem.W.depthAll_ints B
  have h3 : PyData.depth (.tuple [.list (A.map PyData.int), .list (B.map PyData.int)]) ≤ 64 := by
    simp only [PyData.depth, PyData.depthAll]; omega
  show (PyData.canLay0 (.tuple [.list (A.map PyData.int), .list (B.map PyData.int)]) && decide _) = true
  rw [Bool.and_eq_true]
  exact ⟨by simp [PyData.canLay0, PyData.canLayAll0, canLayAll0_ints], decide_eq_true h3⟩
theorem eq_pair {prog : Program} {w : World} {R : Around} {E : Value → Shared → Prop} {s : Shared} {Q : Value → Shared → Prop} {h₀ : Heap} {L T U a b c d : Addr} {news : List (Addr × Obj)} {va vb : List Value} {A B : List Int} {na nb nc nd : Nat}
    (N : News h₀ L s.heap news) (m1 : (T, pairObj (.ref a) (.ref b)) ∈ news) (m2 : (U, pairObj (.ref c) (.ref d)) ∈ news)
    (ma : (a, listOf va.toArray na) ∈ news) (mb : (b, listOf vb.toArray nb) ∈ news) (mc : (c, listOf va.toArray nc) ∈ news) (md : (d, listOf vb.toArray nd) ∈ news)
    (ia : IntsAre va A) (ib : IntsAre vb B) (hu : R.units + 64 < cLine) (h : Q (.bool true) s) : wpAny (model prog w) R (compareOp .Eq (.ref T) (.ref U)) Q E s := by
  have ra : Reads s.heap (.ref a) (.list (A.map PyData.int)) [a] := reads_of_ints ⟨_, (N _ ma).1, rfl, _, rfl⟩ ia
  have rb : Reads s.heap (.ref b) (.list (B.map PyData.int)) [b] := reads_of_ints ⟨_, (N _ mb).1, rfl, _, rfl⟩ ib
  have rc : Reads s.heap (.ref c) (.list (A.map PyData.int)) [c] := reads_of_ints ⟨_, (N _ mc).1, rfl, _, rfl⟩ ia
  have rd : Reads s.heap (.ref d) (.list (B.map PyData.int)) [d] := reads_of_ints ⟨_, (N _ md).1, rfl, _, rfl⟩ ib
  have r1 : Reads s.heap (.ref T) (.tuple [.list (A.map PyData.int), .list (B.map PyData.int)]) _ := Reads.tuple (N _ m1).1 rfl rfl (ReadsAll.cons ra (ReadsAll.cons rb .nil))
  have r2 : Reads s.heap (.ref U) (.tuple [.list (A.map PyData.int), .list (B.map PyData.int)]) _ := Reads.tuple (N _ m2).1 rfl rfl (ReadsAll.cons rc (ReadsAll.cons rd .nil))
  refine eq_dataH_same r1 r2 (shaped_pair A B) (shaped_pair A B) hu (by simp [noMix, noMixAll, noMix_ints]) ?_
  have e : PySem.Spec.same (.tuple [.list (A.map PyData.int), .list (B.map PyData.int)]) (.tuple [.list (A.map PyData.int), .list (B.map PyData.int)]) = true := by simp [PySem.Spec.same, PySem.Spec.sameAll, same_ints]
  rw [e]; exact h
end PBase7
end Mine

namespace Mine
section PC1
open PySem PySem.W PySem.Calls PyProof.Rows
set_option maxRecDepth 100000
theorem normal_end {A : List Int} {k : Int} (h1 : k ≤ (A.length : Int)) (h2 : min (A.length : Int) 0 ≤ k)
    (h3 : ∀ (j : Int), k < j → j ≤ (A.length : Int) → (if 0 < j then if (A.getD (j - 1).toNat 0 == 0) = true then true else false else false) = true)
    (h4 : (if 0 < k then if (A.getD (k - 1).toNat 0 == 0) = true then true else false else false) = false) :
    ∃ e, endZ A e ∧ A.take k.toNat = A.take e ∧ (e = 0 ∨ A.getD (e-1) 0 ≠ 0) := by
  refine ⟨k.toNat, ⟨by omega, fun i hi hl => ?_⟩, rfl, ?_⟩
  · have := h3 (i + 1) (by omega) (by omega)
    rw [if_pos (by omega)] at this
    have e : ((i : Int) + 1 - 1).toNat = i := by omega
    rw [e] at this
    by_cases hz : (A.getD i 0 == 0) = true
    · exact beq_iff_eq.mp hz
    · rw [if_neg hz] at this; cases this
  · by_cases hk : 0 < k
    · right
      rw [if_pos hk] at h4
      have e : (k - 1).toNat = k.toNat - 1 := by omega
      rw [e] at h4
      intro hz
      rw [if_pos (beq_iff_eq.mpr hz)] at h4
      cases h4
    · left; omega

set_option maxHeartbeats 4000000 in
theorem normal_C (w : World) (mean : ExcName → Option Value) (mg mb : Str → Option Value) (la : Addr) (A : List Int) :
    PureC PySem.Challenge.rw_pq0550_01.row.prog w (hd.heap_39 w.params) hd.view_39 (looseW hd.view_39 []) mean mg mb 21 1 [.ref la] (fun h => ListAt h la A ∧ A.length < 100) (fun R => ∃ e, endZ A e ∧ R = A.take e ∧ (e = 0 ∨ A.getD (e-1) 0 ≠ 0)) := by
  w_top off
  k_with_none
  k_fill
  refine PureC.of ?_
  intro dp un gd cn cs a ccd cl outer A₀ base h₀ L m s Q E B F X N T hk hA hd hu hret
  obtain ⟨⟨va, hla, hia⟩, hlen⟩ := hA
  refine wpAny_call ?_
  k_dflt (refine' code_defG ?k1 ?k2 ?k3 ?k4 ?k5 ?kA ?kF ?kK ?k6 ?k7 ?k8 ?k9 ?kB ?_ ?c2 ?c3 ?c4 ?c5; (case kA => exact rfl); (case kF => exact rfl); (case kK => assumption); (case k1 => k_asm); (case k2 => k_asm); (case k3 => k_asm); (case k4 => k_asm); (case k5 => k_asm); (case k6 => k_is); (case k7 => k_is); (case k8 => ktr_room); (case k9 => exact BindsTo.of_eq rfl); (case c5 => decide); (case kB => exact locs rfl); (case c2 => exact rfl); (case c3 => exact rfl); (case c4 => exact rfl); k_whole; intro g' L' h' FG' F' N' B' X' T' kG'; (try dsimp only))
  have kS' := Sub.ofG kG'
  clear kG'
  have hla' := IsList.sub hla kS'
  clear hla N
  (try k_lift B')
  (try k_fold)
  k_steps
  all_goals (refine hret _ _ _ _ _ _ _ _ _ _ kS' (by k_asm) (by k_asm) (by assumption) (by assumption) (List.Mem.head _) (by assumption) ?_)
  exact normal_end (by assumption) (by assumption) (by assumption) (by assumption)
theorem normal_D (w : World) (mean : ExcName → Option Value) (mg mb : Str → Option Value) (la : Addr) (A : List Int) (b : Int) :
    PureC PySem.Challenge.rw_pq0550_01.row.prog w (hd.heap_39 w.params) hd.view_39 (looseW hd.view_39 []) mean mg mb 21 1 [.ref la] (fun h => ListAt h la A ∧ A.length < 100 ∧ Lim b A) (fun R => Lim b R ∧ Norm R ∧ val b R = val b A ∧ R.length ≤ A.length) :=
  (normal_C w mean mg mb la A).weaken (fun _ h => ⟨h.1, h.2.1⟩) fun _ _ h ho => norm_take h.2.2 ho
end PC1
end Mine

namespace Mine
section PC2
open PySem PySem.W PySem.Calls PyProof.Rows
set_option maxRecDepth 100000
local macro_rules | `(tactic| walk_at "call ref") => `(tactic| k_extra "own call")
local macro_rules | `(tactic| walk_at "pyIter ref") => `(tactic| k_extra "own loop")

set_option maxHeartbeats 4000000 in
theorem times_limb_C (w : World) (mean : ExcName → Option Value) (mg mb : Str → Option Value) (la : Addr) (A : List Int) (q : Int) (tq : Tok) (k : Int) (tk : Tok) (b : Int) :
    PureC PySem.Challenge.rw_pq0550_01.row.prog w (hd.heap_39 w.params) hd.view_39 (looseW hd.view_39 []) mean mg mb 49 2 [.ref la, .int q tq, .int k tk]
      (fun h => ListAt h la A ∧ A.length < 90 ∧ Lim b A ∧ 0 ≤ q ∧ q < b ∧ 2 ≤ k ∧ k ≤ 9 ∧ b = 2 ^ k.toNat ∧ b ≤ 512 ∧ 4 ≤ b) (fun R => Lim b R ∧ Norm R ∧ val b R = val b A * q ∧ R.length ≤ A.length + 1) := by
  w_top off
  k_with_none
  k_with "own call" => (
    (with_reducible show wpAny _ _ (call (Value.ref 21) [Value.ref _]) _ _ _)
    k_dflt (refine' PureC.use ?kB ?kF ?kX ?kN ?kT ?kK (normal_C _ _ _ _ _ _) ?kA ?kd ?ku ?_)
    (case kB => k_asm)
    (case kF => k_asm)
    (case kX => k_asm)
    (case kN => k_asm)
    (case kT => k_asm)
    (case kK => first | exact rfl | assumption)
    (case kA => exact ⟨⟨_, by is_list, by l_ints⟩, by ((try simp only [List.length_append, List.length_cons, List.length_nil]); omega)⟩)
    (case kd => ktr_room)
    (case ku => ktr_units)
    intro l9 vr9 R9 n9 h9 tk9 F9 N9 hs9 hl9 hi9 ho9
    (try dsimp only)
    (try k_fold))
  k_fill
  refine PureC.of ?_
  intro dp un gd cn cs a ccd cl outer A₀ base h₀ L m s Q E B F X N T hk hA hd hu hret
  obtain ⟨⟨va, hla, hia⟩, hlen, hlim, hq0, hq1, hk0, hk1, hb, hb1, hb2⟩ := hA
  refine wpAny_call ?_
  k_dflt (refine' code_defG ?k1 ?k2 ?k3 ?k4 ?k5 ?kA ?kF ?kK ?k6 ?k7 ?k8 ?k9 ?kB ?_ ?c2 ?c3 ?c4 ?c5; (case kA => exact rfl); (case kF => exact rfl); (case kK => assumption); (case k1 => k_asm); (case k2 => k_asm); (case k3 => k_asm); (case k4 => k_asm); (case k5 => k_asm); (case k6 => k_is); (case k7 => k_is); (case k8 => ktr_room); (case k9 => exact BindsTo.of_eq rfl); (case c5 => decide); (case kB => exact locs rfl); (case c2 => exact rfl); (case c3 => exact rfl); (case c4 => exact rfl); k_whole; intro g' L' h' FG' F' N' B' X' T' kG'; (try dsimp only))
  have kS' := Sub.ofG kG'
  clear kG'
  have hla' := IsList.sub hla kS'
  clear hla N
  (try k_lift B')
  (try k_fold)
  k_steps
  all_goals (refine hret _ _ _ _ _ _ _ _ _ _ kS' (by k_asm) (by k_asm) (by assumption) (by assumption) (List.Mem.head _) (by assumption) ?_)
  exact times_end hb (by omega) hq0 hq1 hlim rfl ho9
end PC2
end Mine

namespace Mine
section PC3
open PySem PySem.W PySem.Calls PyProof.Rows
set_option maxRecDepth 100000
local macro_rules | `(tactic| walk_at "call ref") => `(tactic| k_extra "own call")
local macro_rules | `(tactic| walk_at "pyIter ref") => `(tactic| k_extra "own loop")

set_option maxHeartbeats 1500000 in
theorem add_C (w : World) (mean : ExcName → Option Value) (mg mb : Str → Option Value) (la lb : Addr) (A B : List Int) (k : Int) (tk : Tok) (b : Int) :
    PureC PySem.Challenge.rw_pq0550_01.row.prog w (hd.heap_39 w.params) hd.view_39 (looseW hd.view_39 []) mean mg mb 28 1 [.ref la, .ref lb, .int k tk]
      (fun h => ListAt h la A ∧ ListAt h lb B ∧ A.length < 90 ∧ B.length < 90 ∧ Lim b A ∧ Lim b B ∧ 2 ≤ k ∧ k ≤ 9 ∧ b = 2 ^ k.toNat ∧ b ≤ 512 ∧ 4 ≤ b) (fun R => Lim b R ∧ val b R = val b A + val b B ∧ (Norm A → Norm B → Norm R) ∧ R.length ≤ max A.length B.length + 1) := by
  w_top off
  k_with_none
  k_with "own loop" => k_state (fun pre carry found => found.length = pre.length ∧ AddInv b A B pre.length carry found) "carry" "found"
  k_with "own loop" => ((with_reducible rename AddInv _ _ _ _ _ _ => hAI); k_state (fun pre carry found => found.length = pre.length + min A.length B.length ∧ AddInv b A B (pre.length + min A.length B.length) carry found) "carry" "found")
  k_with "state" => first
    | with_reducible exact add_st1
    | with_reducible exact add_st2 (by assumption) (by assumption) (by (rw [rangeKs_length]; omega))
    | with_reducible exact add_tn1 hb (by omega) hlimA hlimB (by assumption) (by assumption) kEq
    | with_reducible exact add_tn1' hb (by omega) hlimA hlimB (by assumption) (by assumption) kEq
    | with_reducible exact add_tn2 hb (by omega) hlimA hlimB (by assumption) (by assumption) kEq (by omega)
    | with_reducible exact add_tn2' hb (by omega) hlimA hlimB (by assumption) (by assumption) kEq (by omega)
  k_fill
  refine PureC.of ?_
  intro dp un gd cn cs a ccd cl outer A₀ base h₀ L m s Q E Bl F X N T hk hA hd hu hret
  obtain ⟨⟨va, hla, hia⟩, ⟨vb, hlb, hib⟩, hlenA, hlenB, hlimA, hlimB, hk0, hk1, hb, hb1, hb2⟩ := hA
  refine wpAny_call ?_
  k_dflt (refine' code_defG ?k1 ?k2 ?k3 ?k4 ?k5 ?kA ?kF ?kK ?k6 ?k7 ?k8 ?k9 ?kB ?_ ?c2 ?c3 ?c4 ?c5; (case kA => exact rfl); (case kF => exact rfl); (case kK => assumption); (case k1 => k_asm); (case k2 => k_asm); (case k3 => k_asm); (case k4 => k_asm); (case k5 => k_asm); (case k6 => k_is); (case k7 => k_is); (case k8 => ktr_room); (case k9 => exact BindsTo.of_eq rfl); (case c5 => decide); (case kB => exact locs rfl); (case c2 => exact rfl); (case c3 => exact rfl); (case c4 => exact rfl); k_whole; intro g' L' h' FG' F' N' B' X' T' kG'; (try dsimp only))
  have kS' := Sub.ofG kG'
  clear kG'
  have hla' := IsList.sub hla kS'
  have hlb' := IsList.sub hlb kS'
  clear hla hlb N
  (try k_lift B')
  (try k_fold)
  k_steps
  all_goals (first
    | (refine hret _ _ _ _ _ _ _ _ _ _ kS' (by k_asm) (by k_asm) (by assumption) (by assumption) (mem_push (by first | exact List.Mem.head _ | exact List.Mem.tail _ (List.Mem.head _) | exact List.Mem.tail _ (List.Mem.tail _ (List.Mem.head _)))) (IntsAre.append (by assumption) (.cons _ _ .nil)) (add_end2 (by omega) hlimA hlimB (.inl ⟨rfl, by assumption⟩) (by assumption) ?_))
    | (refine hret _ _ _ _ _ _ _ _ _ _ kS' (by k_asm) (by k_asm) (by assumption) (by assumption) (by first | exact List.Mem.head _ | exact List.Mem.tail _ (List.Mem.head _) | exact List.Mem.tail _ (List.Mem.tail _ (List.Mem.head _))) (by assumption) (add_end2 (by omega) hlimA hlimB (.inr ⟨rfl, by assumption⟩) (by assumption) ?_)))
  all_goals (rw [rangeKs_length]; omega)
end PC3
end Mine

namespace Mine
section PC4
open PySem PySem.W PySem.Calls PyProof.Rows
set_option maxRecDepth 100000
local macro_rules | `(tactic| tb_rel) => `(tactic| first | assumption | exact lim_nil | (refine lim_take ?_ _; tb_rel) | (refine lim_drop ?_ _; tb_rel) | (refine lim_append ?_ ?_ <;> tb_rel))
local macro_rules | `(tactic| tb_start) => `(tactic| ((try simp only [List.length_append, List.length_cons, List.length_nil, List.length_take, List.length_drop]); omega))
local macro_rules | `(tactic| walk_at "call ref") => `(tactic| ((with_reducible show wpAny _ _ (call (Value.ref 28) [Value.ref _, Value.ref _, Value.int _ _]) _ _ _); k_dflt (refine' PureC.use ?kB ?kF ?kX ?kN ?kT ?kK (add_C _ _ _ _ _ _ _ _ _ _ _) ?kA ?kd ?ku ?_; (case kB => k_asm); (case kF => k_asm); (case kX => k_asm); (case kN => k_asm); (case kT => k_asm); (case kK => first | exact rfl | assumption); (case kA => exact ⟨⟨_, by is_list, by l_ints⟩, ⟨_, by is_list, by l_ints⟩, by tb_start, by tb_start, by tb_rel, by tb_rel, by assumption, by assumption, by assumption, by assumption, by assumption⟩); (case kd => ktr_room); (case ku => ktr_units); intro l9 vr9 R9 n9 h9 tk9 F9 N9 hs9 hl9 hi9 ho9; (try dsimp only); (try k_fold))))

set_option maxHeartbeats 2000000 in
theorem add_at_C (w : World) (mean : ExcName → Option Value) (mg mb : Str → Option Value) (la lb : Addr) (A B : List Int) (p : Int) (tp : Tok) (k : Int) (tk : Tok) (b : Int) :
    PureC PySem.Challenge.rw_pq0550_01.row.prog w (hd.heap_39 w.params) hd.view_39 (looseW hd.view_39 []) mean mg mb 35 2 [.ref la, .ref lb, .int p tp, .int k tk]
      (fun h => ListAt h la A ∧ ListAt h lb B ∧ A.length < 80 ∧ B.length < 80 ∧ Lim b A ∧ Lim b B ∧ Norm A ∧ Norm B ∧ 0 ≤ p ∧ p < 80 ∧ 2 ≤ k ∧ k ≤ 9 ∧ b = 2 ^ k.toNat ∧ b ≤ 512 ∧ 4 ≤ b) (fun R => Lim b R ∧ Norm R ∧ val b R = val b A + val b B * b ^ p.toNat ∧ R.length ≤ max A.length (B.length + p.toNat) + 1) := by
  w_top off
  k_with_none
  k_fill
  refine PureC.of ?_
  intro dp un gd cn cs a ccd cl outer A₀ base h₀ L m s Q E Bl F X N T hk hA hd hu hret
  obtain ⟨⟨va, hla, hia⟩, ⟨vb, hlb, hib⟩, hlenA, hlenB, hlimA, hlimB, hnA, hnB, hp0, hp1, hk0, hk1, hb, hb1, hb2⟩ := hA
  refine wpAny_call ?_
  k_dflt (refine' code_defG ?k1 ?k2 ?k3 ?k4 ?k5 ?kA ?kF ?kK ?k6 ?k7 ?k8 ?k9 ?kB ?_ ?c2 ?c3 ?c4 ?c5; (case kA => exact rfl); (case kF => exact rfl); (case kK => assumption); (case k1 => k_asm); (case k2 => k_asm); (case k3 => k_asm); (case k4 => k_asm); (case k5 => k_asm); (case k6 => k_is); (case k7 => k_is); (case k8 => ktr_room); (case k9 => exact BindsTo.of_eq rfl); (case c5 => decide); (case kB => exact locs rfl); (case c2 => exact rfl); (case c3 => exact rfl); (case c4 => exact rfl); k_whole; intro g' L' h' FG' F' N' B' X' T' kG'; (try dsimp only))
  have kS' := Sub.ofG kG'
  clear kG'
  have hla' := IsList.sub hla kS'
  have hlb' := IsList.sub hlb kS'
  clear hla hlb N
  (try k_lift B')
  (try k_fold)
  k_steps
  all_goals (refine hret _ _ _ _ _ _ _ _ _ _ kS' (by k_asm) (by k_asm) (by assumption) (by assumption) (List.Mem.head _) (by assumption) ?_)
  all_goals first
    | with_reducible exact at_1 hlimA hnA (by assumption)
    | with_reducible exact at_2 (by omega) hlimA hlimB hnB (by assumption) (by assumption)
    | with_reducible exact at_3 (by omega) hlimA hlimB hnA hnB hp0 (by assumption) (by assumption) (by assumption)
end PC4
end Mine

namespace Mine
section PC5
open PySem PySem.W PySem.Calls PyProof.Rows
set_option maxRecDepth 100000
local macro_rules | `(tactic| tb_rel) => `(tactic| first | assumption | exact lim_nil | (refine lim_take ?_ _; tb_rel) | (refine lim_drop ?_ _; tb_rel) | (refine lim_append ?_ ?_ <;> tb_rel))
local macro_rules | `(tactic| tb_start) => `(tactic| ((try simp only [List.length_append, List.length_cons, List.length_nil, List.length_take, List.length_drop]); omega))
local macro_rules | `(tactic| walk_at "pyIter ref") => `(tactic| k_extra "own loop")
local macro_rules | `(tactic| walk_at "call ref") => `(tactic| ((with_reducible show wpAny _ _ (call (Value.ref 21) [Value.ref _]) _ _ _); k_dflt (refine' PureC.use ?kB ?kF ?kX ?kN ?kT ?kK (normal_D _ _ _ _ _ _ _) ?kA ?kd ?ku ?_; (case kB => k_asm); (case kF => k_asm); (case kX => k_asm); (case kN => k_asm); (case kT => k_asm); (case kK => first | exact rfl | assumption); (case kA => exact ⟨⟨_, by is_list, by l_ints⟩, by tb_start, by tb_rel⟩); (case kd => ktr_room); (case ku => ktr_units); intro l9 vr9 R9 n9 h9 tk9 F9 N9 hs9 hl9 hi9 ho9; obtain ⟨ho1, ho2, ho3, ho4⟩ := ho9; (try simp only [List.length_take, List.length_drop] at ho4); (try dsimp only); (try k_fold))))
local macro_rules | `(tactic| walk_at "call ref") => `(tactic| ((with_reducible show wpAny _ _ (call (Value.ref 49) [Value.ref _, Value.int _ _, Value.int _ _]) _ _ _); k_dflt (refine' PureC.use ?kB ?kF ?kX ?kN ?kT ?kK (times_limb_C _ _ _ _ _ _ _ _ _ _ _) ?kA ?kd ?ku ?_; (case kB => k_asm); (case kF => k_asm); (case kX => k_asm); (case kN => k_asm); (case kT => k_asm); (case kK => first | exact rfl | assumption); (case kA => exact ⟨⟨_, by is_list, by l_ints⟩, by tb_start, by tb_rel, by (first | assumption | exact lim_get1 (by assumption) (by omega) _), by (first | assumption | exact lim_get2 (by assumption) (by omega) _), by assumption, by assumption, by assumption, by assumption, by assumption⟩); (case kd => ktr_room); (case ku => ktr_units); intro l9 vr9 R9 n9 h9 tk9 F9 N9 hs9 hl9 hi9 ho9; obtain ⟨ho1, ho2, ho3, ho4⟩ := ho9; (try dsimp only); (try k_fold))))
local macro_rules | `(tactic| walk_at "call ref") => `(tactic| ((with_reducible show wpAny _ _ (call (Value.ref 28) [Value.ref _, Value.ref _, Value.int _ _]) _ _ _); k_dflt (refine' PureC.use ?kB ?kF ?kX ?kN ?kT ?kK (add_C _ _ _ _ _ _ _ _ _ _ _) ?kA ?kd ?ku ?_; (case kB => k_asm); (case kF => k_asm); (case kX => k_asm); (case kN => k_asm); (case kT => k_asm); (case kK => first | exact rfl | assumption); (case kA => exact ⟨⟨_, by is_list, by l_ints⟩, ⟨_, by is_list, by l_ints⟩, by tb_start, by tb_start, by tb_rel, by tb_rel, by assumption, by assumption, by assumption, by assumption, by assumption⟩); (case kd => ktr_room); (case ku => ktr_units); intro l9 vr9 R9 n9 h9 tk9 F9 N9 hs9 hl9 hi9 ho9; obtain ⟨ho1, ho2, ho3, ho4⟩ := ho9; (try dsimp only); (try k_fold))))

set_option maxHeartbeats 2000000 in
theorem middle_C (w : World) (mean : ExcName → Option Value) (mg mb : Str → Option Value) (la lb : Addr) (A B : List Int) (k : Int) (tk : Tok) (b : Int) :
    PureC PySem.Challenge.rw_pq0550_01.row.prog w (hd.heap_39 w.params) hd.view_39 (looseW hd.view_39 []) mean mg mb 56 4 [.ref la, .ref lb, .int k tk]
      (fun h => ListAt h la A ∧ ListAt h lb B ∧ A.length < 20 ∧ B.length < 20 ∧ Lim b A ∧ Lim b B ∧ 2 ≤ k ∧ k ≤ 9 ∧ b = 2 ^ k.toNat ∧ b ≤ 512 ∧ 4 ≤ b) (fun R => MidInv b A B B.length R) := by
  w_top off
  k_with_none
  k_with "own loop" => (
    (with_reducible show wpAny _ _ (pyIter (Value.ref _)) (fun it s₂ => LoopAtV _ _ _ _ _ _ _ _ _ it s₂) _ _)
    k_here
    (rename Fr _ _ _ _ => lF')
    (rename News _ _ _ _ => lN')
    (rename IsRange _ _ _ _ _ _ _ _ => rgX)
    (with_unfolding_all refine' rb_range (Str.ofString "found") [Str.ofString "row"] (fun i ns => MidInv b A B i ns) (by rfl) rgX (by exact small_one (by omega) (by omega) (by omega) (by omega)) (by exact rangeSize_nat _ _) lF' lN' (by with_unfolding_all rfl) ?rm ?ri ?rp (by decide) ?rt ?rd)
    (case rm => k_mem)
    (case ri => l_ints)
    (case rp => exact mid_start _ _ _)
    (case' rt => intro i9 l9 vs9 ns9 nn9 t9 u9 h9 tk9 own9 hi9 ho9 hI9 hP9 F9 N9; obtain ⟨hP1, hP2, hP3, hP4⟩ := hP9; clear lF' lN' rgX; (try k_fold))
    (case' rd => intro l9 vs9 ns9 nn9 u9 h9 tk9 hI9 hP9 F9 N9; clear lF' lN' rgX; (try k_fold))
  )
  k_fill
  refine PureC.of ?_
  intro dp un gd cn cs a ccd cl outer A₀ base h₀ L m s Q E Bl F X N T hk hA hd hu hret
  obtain ⟨⟨va, hla, hia⟩, ⟨vb, hlb, hib⟩, hlenA, hlenB, hlimA, hlimB, hk0, hk1, hb, hb1, hb2⟩ := hA
  refine wpAny_call ?_
  k_dflt (refine' code_defG ?k1 ?k2 ?k3 ?k4 ?k5 ?kA ?kF ?kK ?k6 ?k7 ?k8 ?k9 ?kB ?_ ?c2 ?c3 ?c4 ?c5; (case kA => exact rfl); (case kF => exact rfl); (case kK => assumption); (case k1 => k_asm); (case k2 => k_asm); (case k3 => k_asm); (case k4 => k_asm); (case k5 => k_asm); (case k6 => k_is); (case k7 => k_is); (case k8 => ktr_room); (case k9 => exact BindsTo.of_eq rfl); (case c5 => decide); (case kB => exact locs rfl); (case c2 => exact rfl); (case c3 => exact rfl); (case c4 => exact rfl); k_whole; intro g' L' h' FG' F' N' B' X' T' kG'; (try dsimp only))
  have kS' := Sub.ofG kG'
  clear kG'
  have hla' := IsList.sub hla kS'
  have hlb' := IsList.sub hlb kS'
  clear hla hlb N
  (try k_lift B')
  (try k_fold)
  k_steps
  all_goals first
    | (refine hret _ _ _ _ _ _ _ _ _ _ kS' (by k_asm) (by k_asm) (by assumption) (by assumption) (List.Mem.head _) (by assumption) ?_; (refine mid_cast (by assumption) (by omega)); done)
    | (show RbEnd _ _ _ _ _ _ _ _ _ _; refine ⟨_, _, _, _, _, _, _, _, rfl, by assumption, by assumption, List.Mem.head _, (by (intro p hp; kst_mem)), (by (intro p hp; (refine all_ne (by assumption) p ?_); kst_mem)), by assumption, by with_unfolding_all rfl, by kst_same, ?_⟩)
  all_goals (refine mid_turn (by assumption) (by assumption) (by assumption) (by assumption) (by assumption) (by assumption) (by assumption) (by assumption) (by assumption) (by assumption) (by (split <;> omega)) (by omega) (by rfl) (by assumption) (by omega))
end PC5
end Mine

namespace Mine
section PC6
open PySem PySem.W PySem.Calls PyProof.Rows
set_option maxRecDepth 100000
local macro_rules | `(tactic| walk_at "nothing of this key") => `(tactic| fail "none")
local macro_rules | `(tactic| tb_rel) => `(tactic| first | assumption | exact lim_nil | (refine lim_take ?_ _; tb_rel) | (refine lim_drop ?_ _; tb_rel) | (refine lim_append ?_ ?_ <;> tb_rel))
local macro_rules | `(tactic| tb_start) => `(tactic| ((try simp only [List.length_append, List.length_cons, List.length_nil, List.length_take, List.length_drop]); omega))
local macro_rules | `(tactic| walk_at "pyIter ref") => `(tactic| k_extra "own loop")
local macro_rules | `(tactic| walk_at "call ref") => `(tactic| ((with_reducible show wpAny _ _ (call (Value.ref 21) [Value.ref _]) _ _ _); k_dflt (refine' PureC.use ?kB ?kF ?kX ?kN ?kT ?kK (normal_D _ _ _ _ _ _ _) ?kA ?kd ?ku ?_; (case kB => k_asm); (case kF => k_asm); (case kX => k_asm); (case kN => k_asm); (case kT => k_asm); (case kK => first | exact rfl | assumption); (case kA => exact ⟨⟨_, by is_list, by l_ints⟩, by tb_start, by tb_rel⟩); (case kd => ktr_room); (case ku => ktr_units); intro l9 vr9 R9 n9 h9 tk9 F9 N9 hs9 hl9 hi9 ho9; obtain ⟨ho1, ho2, ho3, ho4⟩ := ho9; (try simp only [List.length_take, List.length_drop] at ho4); (try dsimp only); (try k_fold))))
local macro_rules | `(tactic| walk_at "call ref") => `(tactic| ((with_reducible show wpAny _ _ (call (Value.ref 49) [Value.ref _, Value.int _ _, Value.int _ _]) _ _ _); k_dflt (refine' PureC.use ?kB ?kF ?kX ?kN ?kT ?kK (times_limb_C _ _ _ _ _ _ _ _ _ _ _) ?kA ?kd ?ku ?_; (case kB => k_asm); (case kF => k_asm); (case kX => k_asm); (case kN => k_asm); (case kT => k_asm); (case kK => first | exact rfl | assumption); (case kA => exact ⟨⟨_, by is_list, by l_ints⟩, by tb_start, by tb_rel, by (first | assumption | exact lim_get1 (by assumption) (by omega) _), by (first | assumption | exact lim_get2 (by assumption) (by omega) _), by assumption, by assumption, by assumption, by assumption, by assumption⟩); (case kd => ktr_room); (case ku => ktr_units); intro l9 vr9 R9 n9 h9 tk9 F9 N9 hs9 hl9 hi9 ho9; obtain ⟨ho1, ho2, ho3, ho4⟩ := ho9; (try dsimp only); (try k_fold))))
local macro_rules | `(tactic| walk_at "call ref") => `(tactic| ((with_reducible show wpAny _ _ (call (Value.ref 35) [Value.ref _, Value.ref _, Value.int _ _, Value.int _ _]) _ _ _); k_dflt (refine' PureC.use ?kB ?kF ?kX ?kN ?kT ?kK (add_at_C _ _ _ _ _ _ _ _ _ _ _ _ _) ?kA ?kd ?ku ?_; (case kB => k_asm); (case kF => k_asm); (case kX => k_asm); (case kN => k_asm); (case kT => k_asm); (case kK => first | exact rfl | assumption); (case kA => exact ⟨⟨_, by is_list, by l_ints⟩, ⟨_, by is_list, by l_ints⟩, by tb_start, by tb_start, by tb_rel, by tb_rel, by assumption, by assumption, by (first | omega | (split <;> omega)), by (first | omega | (split <;> omega)), by assumption, by assumption, by assumption, by assumption, by assumption⟩); (case kd => ktr_room); (case ku => ktr_units); intro l9 vr9 R9 n9 h9 tk9 F9 N9 hs9 hl9 hi9 ho9; obtain ⟨ho1, ho2, ho3, ho4⟩ := ho9; (try dsimp only); (try k_fold))))

set_option maxHeartbeats 2000000 in
theorem high_C (w : World) (mean : ExcName → Option Value) (mg mb : Str → Option Value) (la lb : Addr) (A B : List Int) (q : Int) (tq : Tok) (k : Int) (tk : Tok) (b : Int) :
    PureC PySem.Challenge.rw_pq0550_01.row.prog w (hd.heap_39 w.params) hd.view_39 (looseW hd.view_39 []) mean mg mb 42 4 [.ref la, .ref lb, .int q tq, .int k tk]
      (fun h => ListAt h la A ∧ ListAt h lb B ∧ A.length < 20 ∧ B.length < 20 ∧ Lim b A ∧ Lim b B ∧ 1 ≤ q ∧ q ≤ 20 ∧ 2 ≤ k ∧ k ≤ 9 ∧ b = 2 ^ k.toNat ∧ b ≤ 512 ∧ 4 ≤ b) (fun R => HighInv b A B q A.length R) := by
  w_top off
  k_with_none
  k_with "own loop" => (
    (with_reducible show wpAny _ _ (pyIter (Value.ref _)) (fun it s₂ => LoopAtV _ _ _ _ _ _ _ _ _ it s₂) _ _)
    k_here
    (rename Fr _ _ _ _ => lF')
    (rename News _ _ _ _ => lN')
    (rename IsRange _ _ _ _ _ _ _ _ => rgX)
    (with_unfolding_all refine' rb_range (Str.ofString "found") [Str.ofString "begin", Str.ofString "row"] (fun i ns => HighInv b A B q i ns) (by rfl) rgX (by exact small_one (by omega) (by omega) (by omega) (by omega)) (by exact rangeSize_nat _ _) lF' lN' (by with_unfolding_all rfl) ?rm ?ri ?rp (by decide) ?rt ?rd)
    (case rm => k_mem)
    (case ri => l_ints)
    (case rp => exact high_start _ _ _ _)
    (case' rt => intro i9 l9 vs9 ns9 nn9 t9 u9 h9 tk9 own9 hi9 ho9 hI9 hP9 F9 N9; obtain ⟨hP1, hP2, hP3, hP4⟩ := hP9; clear lF' lN' rgX; (try k_fold))
    (case' rd => intro l9 vs9 ns9 nn9 u9 h9 tk9 hI9 hP9 F9 N9; clear lF' lN' rgX; (try k_fold))
  )
  k_fill
  refine PureC.of ?_
  intro dp un gd cn cs a ccd cl outer A₀ base h₀ L m s Q E Bl F X N T hk hA hd hu hret
  obtain ⟨⟨va, hla, hia⟩, ⟨vb, hlb, hib⟩, hlenA, hlenB, hlimA, hlimB, hq0, hq1, hk0, hk1, hb, hb1, hb2⟩ := hA
  refine wpAny_call ?_
  k_dflt (refine' code_defG ?k1 ?k2 ?k3 ?k4 ?k5 ?kA ?kF ?kK ?k6 ?k7 ?k8 ?k9 ?kB ?_ ?c2 ?c3 ?c4 ?c5; (case kA => exact rfl); (case kF => exact rfl); (case kK => assumption); (case k1 => k_asm); (case k2 => k_asm); (case k3 => k_asm); (case k4 => k_asm); (case k5 => k_asm); (case k6 => k_is); (case k7 => k_is); (case k8 => ktr_room); (case k9 => exact BindsTo.of_eq rfl); (case c5 => decide); (case kB => exact locs rfl); (case c2 => exact rfl); (case c3 => exact rfl); (case c4 => exact rfl); k_whole; intro g' L' h' FG' F' N' B' X' T' kG'; (try dsimp only))
  have kS' := Sub.ofG kG'
  clear kG'
  have hla' := IsList.sub hla kS'
  have hlb' := IsList.sub hlb kS'
  clear hla hlb N
  (try k_lift B')
  (try k_fold)
  k_steps
  all_goals first
    | (refine hret _ _ _ _ _ _ _ _ _ _ kS' (by k_asm) (by k_asm) (by assumption) (by assumption) (List.Mem.head _) (by assumption) ?_; (refine high_cast (by assumption) (by omega)); done)
    | (show RbEnd _ _ _ _ _ _ _ _ _ _; refine ⟨_, _, _, _, _, _, _, _, rfl, by assumption, by assumption, List.Mem.head _, (by (intro p hp; kst_mem)), (by (intro p hp; (refine all_ne (by assumption) p ?_); kst_mem)), by assumption, by with_unfolding_all rfl, by kst_same, ?_⟩)
  all_goals (refine high_turn (by assumption) (by assumption) (by assumption) (by assumption) (by assumption) (by assumption) (by assumption) (by assumption) (by (split <;> omega)) (by (split <;> omega)) (by rfl) (by assumption) (by omega) (by omega))
end PC6
end Mine

namespace Mine
section PC7
open PySem PySem.W PySem.Calls PyProof.Rows
set_option maxRecDepth 100000
local macro_rules | `(tactic| tb_rel) => `(tactic| first | assumption | exact lim_nil | (refine lim_take ?_ _; tb_rel) | (refine lim_drop ?_ _; tb_rel) | (refine lim_append ?_ ?_ <;> tb_rel))
local macro_rules | `(tactic| tb_start) => `(tactic| ((try simp only [List.length_append, List.length_cons, List.length_nil, List.length_take, List.length_drop]); omega))
local macro_rules | `(tactic| units_room) => `(tactic| ktr_units)
local macro_rules | `(tactic| walk_at "binaryOp LShift int int") => `(tactic| (k_here; (with_reducible refine lshift_int ?kbn ?kbs ?_); (case kbn => omega); (case kbs => omega)))
local macro_rules | `(tactic| walk_at "subscriptTail") => `(tactic| (k_here; (with_reducible show wpAny _ _ (subscriptTail _ _ (Value.ref _) (Value.int (-1) _)) _ _ _); (have hne9 := ne_len (by assumption)); (refine item_list_ints_neg (by is_list) (by l_ints) (by decide) (by omega) (by decide) ?_); intro _))

set_option maxHeartbeats 2000000 in
theorem of_C (w : World) (mean : ExcName → Option Value) (mg mb : Str → Option Value) (la : Addr) (A : List Int) (k : Int) (tk : Tok) (b : Int) :
    PureV PySem.Challenge.rw_pq0550_01.row.prog w (hd.heap_39 w.params) hd.view_39 (looseW hd.view_39 []) mean mg mb 75 12 [.ref la, .int k tk]
      (fun h => ListAt h la A ∧ A.length < 60 ∧ Lim b A ∧ Norm A ∧ 2 ≤ k ∧ k ≤ 9 ∧ b = 2 ^ k.toNat ∧ b ≤ 512 ∧ 4 ≤ b) (fun v => ∃ t, v = .int (val b A) t) := by
  w_top off
  k_with_none
  k_with "pyIter ref" => (k_state (fun pre found => found = valR b pre ∧ Builtin.Int.intBits found ≤ 600) "found"; all_goals (try (have hM9 := of_mem hlimA (by assumption))))
  k_with "state" => first
    | with_reducible exact of_start _
    | with_reducible exact of_turn hb hb1 hb2 hlimA hlenA (by assumption) (by assumption)
  k_fill
  refine PureV.of ?_
  intro dp un gd cn cs a ccd cl outer A₀ base h₀ L m s Q E Bl F X N T hk hA hd hu hret
  obtain ⟨⟨va, hla, hia⟩, hlenA, hlimA, hnA, hk0, hk1, hb, hb1, hb2⟩ := hA
  refine wpAny_call ?_
  k_dflt (refine' code_defG ?k1 ?k2 ?k3 ?k4 ?k5 ?kA ?kF ?kK ?k6 ?k7 ?k8 ?k9 ?kB ?_ ?c2 ?c3 ?c4 ?c5; (case kA => exact rfl); (case kF => exact rfl); (case kK => assumption); (case k1 => k_asm); (case k2 => k_asm); (case k3 => k_asm); (case k4 => k_asm); (case k5 => k_asm); (case k6 => k_is); (case k7 => k_is); (case k8 => ktr_room); (case k9 => exact BindsTo.of_eq rfl); (case c5 => decide); (case kB => exact locs rfl); (case c2 => exact rfl); (case c3 => exact rfl); (case c4 => exact rfl); k_whole; intro g' L' h' FG' F' N' B' X' T' kG'; (try dsimp only))
  have kS' := Sub.ofG kG'
  clear kG'
  have hla' := IsList.sub hla kS'
  clear hla N
  (try k_lift B')
  (try k_fold)
  k_steps
  all_goals first
    | (refine hret _ _ _ _ _ _ kS' (by k_asm) (by assumption) (of_ret (by assumption)); done)
    | exact (of_absurd hnA (by assumption) (by assumption)).elim
end PC7
end Mine

namespace Mine
section PC8
open PySem PySem.W PySem.Calls PyProof.Rows
set_option maxRecDepth 100000
local macro_rules | `(tactic| tb_rel) => `(tactic| first | assumption | exact lim_nil | (refine lim_take ?_ _; tb_rel) | (refine lim_drop ?_ _; tb_rel) | (refine lim_append ?_ ?_ <;> tb_rel))
local macro_rules | `(tactic| tb_start) => `(tactic| ((try simp only [List.length_append, List.length_cons, List.length_nil, List.length_take, List.length_drop]); omega))
local macro_rules | `(tactic| units_room) => `(tactic| ktr_units)
local macro_rules | `(tactic| walk_at "pyIter ref") => `(tactic| ((with_reducible show wpAny _ _ _ (fun it s₂ => PairAt3 _ _ _ _ _ _ _ _ _ _ it s₂) _ _); k_here; k_extra "enum loop"))
local macro_rules | `(tactic| walk_at "binaryOp LShift int int") => `(tactic| (k_here; (with_reducible refine lshift_int ?kbn ?kbs ?_); (case kbn => exact sh_nn (by omega) (by omega)); (case kbs => exact sh_sz (by assumption) (by assumption) (by assumption) (by assumption) (by assumption) (by omega) (by omega) (by omega) (by omega))))
local macro_rules | `(tactic| walk_at "binaryOp Mult int int") => `(tactic| (k_here; (with_reducible refine mul_int ?_)))

set_option maxHeartbeats 2000000 in
theorem between_C (w : World) (mean : ExcName → Option Value) (mg mb : Str → Option Value) (la lb : Addr) (A B : List Int) (k lo hi : Int) (tk tl th : Tok) (b : Int) :
    PureV PySem.Challenge.rw_pq0550_01.row.prog w (hd.heap_39 w.params) hd.view_39 (looseW hd.view_39 []) mean mg mb 82 12 [.ref la, .ref lb, .int k tk, .int lo tl, .int hi th]
      (fun h => ListAt h la A ∧ ListAt h lb B ∧ A.length < 20 ∧ B.length < 20 ∧ Lim b A ∧ Lim b B ∧ -20 ≤ lo ∧ lo < 20 ∧ 0 ≤ hi ∧ hi < 20 ∧ 2 ≤ k ∧ k ≤ 9 ∧ b = 2 ^ k.toNat ∧ b ≤ 512 ∧ 4 ≤ b) (fun v => ∃ t, v = .int (betw b A B lo hi) t) := by
  w_top off
  k_with_none
  k_with "enum loop" => (
    (with_reducible show wpAny _ _ _ (fun it s₂ => PairAt3 _ _ _ _ _ (Str.ofString "at") _ _ _ _ it s₂) _ _)
    (rename PairSrcL _ _ _ _ _ _ _ _ _ _ _ _ => lS8)
    (with_unfolding_all refine' en_loop (Str.ofString "found") [Str.ofString "spot", Str.ofString "other"] (fun i f => f = btRows b A B lo hi i) lS8 (by rfl) (by with_unfolding_all rfl) ?rp8 (by decide) (by decide) ?rt8 ?rd8)
    (case rp8 => exact bt_start)
    (case' rt8 => intro i8 x8 t8 tx8 f8 tf8 u8 h8 tk8 own8 hx8 hP8 F8 N8; have hl8 := get_lim hlimA hx8; obtain ⟨hl8a, hl8b, hl8c⟩ := hl8; (try dsimp only at hP8); clear lS8; (try k_fold))
    (case' rd8 => intro f8 tf8 u8 h8 tk8 hP8 F8 N8; (try dsimp only at hP8); clear lS8; (try k_fold))
  )
  k_with "enum loop" => (
    (with_reducible show wpAny _ _ _ (fun it s₂ => PairAt3 _ _ _ _ _ (Str.ofString "spot") _ _ _ _ it s₂) _ _)
    (rename PairSrcL _ _ _ _ _ _ _ _ _ _ _ _ => lS9)
    (with_unfolding_all refine' en_loop (Str.ofString "found") [] (fun j f => f = btRows b A B lo hi i8 + btRow b x8 i8 B lo hi j) lS9 (by rfl) (by with_unfolding_all rfl) ?rp9 (by decide) (by decide) ?rt9 ?rd9)
    (case rp9 => exact bt_start2 (by assumption))
    (case' rt9 => intro i9 x9 t9 tx9 f9 tf9 u9 h9 tk9 own9 hx9 hP9 F9 N9; have hl9 := get_lim hlimB hx9; obtain ⟨hl9a, hl9b, hl9c⟩ := hl9; (try dsimp only at hP9); clear lS9; (try k_fold))
    (case' rd9 => intro f9 tf9 u9 h9 tk9 hP9 F9 N9; (try dsimp only at hP9); clear lS9; (try k_fold))
  )
  k_fill
  refine PureV.of ?_
  intro dp un gd cn cs a ccd cl outer A₀ base h₀ L m s Q E Bl F X N T hk hA hd hu hret
  obtain ⟨⟨va, hla, hia⟩, ⟨vb, hlb, hib⟩, hlenA, hlenB, hlimA, hlimB, hlo0, hlo1, hhi0, hhi1, hk0, hk1, hb, hb1, hb2⟩ := hA
  refine wpAny_call ?_
  k_dflt (refine' code_defG ?k1 ?k2 ?k3 ?k4 ?k5 ?kA ?kF ?kK ?k6 ?k7 ?k8 ?k9 ?kB ?_ ?c2 ?c3 ?c4 ?c5; (case kA => exact rfl); (case kF => exact rfl); (case kK => assumption); (case k1 => k_asm); (case k2 => k_asm); (case k3 => k_asm); (case k4 => k_asm); (case k5 => k_asm); (case k6 => k_is); (case k7 => k_is); (case k8 => ktr_room); (case k9 => exact BindsTo.of_eq rfl); (case c5 => decide); (case kB => exact locs rfl); (case c2 => exact rfl); (case c3 => exact rfl); (case c4 => exact rfl); k_whole; intro g' L' h' FG' F' N' B' X' T' kG'; (try dsimp only))
  have kS' := Sub.ofG kG'
  clear kG'
  have hla' := IsList.sub hla kS'
  have hlb' := IsList.sub hlb kS'
  clear hla hlb N
  (try k_lift B')
  (try k_fold)
  k_steps
  all_goals first
    | (refine hret _ _ _ _ _ _ kS' (by k_asm) (by assumption) (bt_ret (by assumption)); done)
    | (show EnEnd _ _ _ _ _ _ _ _ _ _ _; refine ⟨_, _, _, _, _, _, rfl, by assumption, by assumption, (by (intro p hp; kst_mem)), by with_unfolding_all rfl, by kst_same, ?_⟩)
  all_goals first
    | with_reducible exact bt_row hx8 (by assumption)
    | (refine bt_yes hb hk0 hx9 (by assumption) ?_ ?_ <;> assumption)
    | (refine bt_no (by assumption) ?_; omega)
end PC8
end Mine

namespace Mine
section PC9
open PySem PySem.W PySem.Calls PyProof.Rows
set_option maxRecDepth 100000
local macro_rules | `(tactic| tb_rel) => `(tactic| first | assumption | exact lim_nil | (refine lim_take ?_ _; tb_rel) | (refine lim_drop ?_ _; tb_rel) | (refine lim_append ?_ ?_ <;> tb_rel))
local macro_rules | `(tactic| tb_start) => `(tactic| ((try simp only [List.length_append, List.length_cons, List.length_nil, List.length_take, List.length_drop]); omega))
local macro_rules | `(tactic| units_room) => `(tactic| ktr_units)
local macro_rules | `(tactic| walk_at "binaryOp LShift int int") => `(tactic| (k_here; (with_reducible refine lshift_int ?kbn ?kbs ?_); (case kbn => exact sh_nn (by omega) (by omega)); (case kbs => exact sh_val (by assumption) (by assumption) (by assumption) (by omega) (by omega) (by omega) (by omega) (by omega))))
local macro_rules | `(tactic| walk_at "binaryOp Mult int int") => `(tactic| (k_here; (with_reducible refine mul_int ?_)))
local macro_rules | `(tactic| walk_at "call ref") => `(tactic| ((with_reducible show wpAny _ _ (call (Value.ref 56) [Value.ref _, Value.ref _, Value.int _ _]) _ _ _); k_dflt (refine' PureC.use ?kB ?kF ?kX ?kN ?kT ?kK (middle_C _ _ _ _ _ _ _ _ _ _ _) ?kA ?kd ?ku ?_; (case kB => k_asm); (case kF => k_asm); (case kX => k_asm); (case kN => k_asm); (case kT => k_asm); (case kK => first | exact rfl | assumption); (case kA => exact ⟨⟨_, by is_list, by l_ints⟩, ⟨_, by is_list, by l_ints⟩, by tb_start, by tb_start, by tb_rel, by tb_rel, by assumption, by assumption, by assumption, by assumption, by assumption⟩); (case kd => ktr_room); (case ku => ktr_units); intro l9 vr9 R9 n9 h9 tk9 F9 N9 hs9 hl9 hi9 ho9; obtain ⟨ho1, ho2, ho3, ho4⟩ := mid_done ho9; (try dsimp only); (try k_fold))))
local macro_rules | `(tactic| walk_at "call ref") => `(tactic| ((with_reducible show wpAny _ _ (call (Value.ref 42) [Value.ref _, Value.ref _, Value.int _ _, Value.int _ _]) _ _ _); k_dflt (refine' PureC.use ?kB ?kF ?kX ?kN ?kT ?kK (high_C _ _ _ _ _ _ _ _ _ _ _ _ _) ?kA ?kd ?ku ?_; (case kB => k_asm); (case kF => k_asm); (case kX => k_asm); (case kN => k_asm); (case kT => k_asm); (case kK => first | exact rfl | assumption); (case kA => exact ⟨⟨_, by is_list, by l_ints⟩, ⟨_, by is_list, by l_ints⟩, by tb_start, by tb_start, by tb_rel, by tb_rel, by (first | omega | ((have hne9 := ne_len (by assumption)); omega)), by omega, by assumption, by assumption, by assumption, by assumption, by assumption⟩); (case kd => ktr_room); (case ku => ktr_units); intro l9 vr9 R9 n9 h9 tk9 F9 N9 hs9 hl9 hi9 ho9; obtain ⟨ho1, ho2, ho3, ho4⟩ := ho9; (try dsimp only); (try k_fold))))
local macro_rules | `(tactic| walk_at "call ref") => `(tactic| ((with_reducible show wpAny _ _ (call (Value.ref 75) [Value.ref _, Value.int _ _]) _ _ _); k_dflt (refine' PureV.use ?kB ?kF ?kX ?kN ?kT ?kK (of_C _ _ _ _ _ _ _ _ _) ?kA ?kd ?ku ?_; (case kB => k_asm); (case kF => k_asm); (case kX => k_asm); (case kN => k_asm); (case kT => k_asm); (case kK => first | exact rfl | assumption); (case kA => exact ⟨⟨_, by is_list, by l_ints⟩, by tb_start, by tb_rel, by assumption, by assumption, by assumption, by assumption, by assumption, by assumption⟩); (case kd => ktr_room); (case ku => ktr_units); intro v9 h9 tk9 F9 N9 hs9 ho9; obtain ⟨t9, e9⟩ := ho9; subst e9; (try dsimp only); (try k_fold))))
local macro_rules | `(tactic| walk_at "call ref") => `(tactic| ((with_reducible show wpAny _ _ (call (Value.ref 82) [Value.ref _, Value.ref _, Value.int _ _, Value.int _ _, Value.int _ _]) _ _ _); k_dflt (refine' PureV.use ?kB ?kF ?kX ?kN ?kT ?kK (between_C _ _ _ _ _ _ _ _ _ _ _ _ _ _ _) ?kA ?kd ?ku ?_; (case kB => k_asm); (case kF => k_asm); (case kX => k_asm); (case kN => k_asm); (case kT => k_asm); (case kK => first | exact rfl | assumption); (case kA => exact ⟨⟨_, by is_list, by l_ints⟩, ⟨_, by is_list, by l_ints⟩, by tb_start, by tb_start, by tb_rel, by tb_rel, by omega, by omega, by omega, by omega, by assumption, by assumption, by assumption, by assumption, by assumption⟩); (case kd => ktr_room); (case ku => ktr_units); intro v9 h9 tk9 F9 N9 hs9 ho9; obtain ⟨t9, e9⟩ := ho9; subst e9; (try dsimp only); (try k_fold))))

set_option maxHeartbeats 2000000 in
theorem right_C (w : World) (mean : ExcName → Option Value) (mg mb : Str → Option Value) (la lb : Addr) (A B : List Int) (k : Int) (tk : Tok) (b : Int) :
    PureV PySem.Challenge.rw_pq0550_01.row.prog w (hd.heap_39 w.params) hd.view_39 (looseW hd.view_39 []) mean mg mb 89 16 [.ref la, .ref lb, .int k tk]
      (fun h => ListAt h la A ∧ ListAt h lb B ∧ A.length ≤ 8 ∧ B.length ≤ 8 ∧ Lim b A ∧ Lim b B ∧ 2 ≤ k ∧ k ≤ 9 ∧ b = 2 ^ k.toNat ∧ b ≤ 512 ∧ 4 ≤ b) (fun v => v = .bool true) := by
  w_top off
  k_with_none
  k_fill
  refine PureV.of ?_
  intro dp un gd cn cs a ccd cl outer A₀ base h₀ L m s Q E Bl F X N T hk hA hd hu hret
  obtain ⟨⟨va, hla, hia⟩, ⟨vb, hlb, hib⟩, hlenA, hlenB, hlimA, hlimB, hk0, hk1, hb, hb1, hb2⟩ := hA
  refine wpAny_call ?_
  k_dflt (refine' code_defG ?k1 ?k2 ?k3 ?k4 ?k5 ?kA ?kF ?kK ?k6 ?k7 ?k8 ?k9 ?kB ?_ ?c2 ?c3 ?c4 ?c5; (case kA => exact rfl); (case kF => exact rfl); (case kK => assumption); (case k1 => k_asm); (case k2 => k_asm); (case k3 => k_asm); (case k4 => k_asm); (case k5 => k_asm); (case k6 => k_is); (case k7 => k_is); (case k8 => ktr_room); (case k9 => exact BindsTo.of_eq rfl); (case c5 => decide); (case kB => exact locs rfl); (case c2 => exact rfl); (case c3 => exact rfl); (case c4 => exact rfl); k_whole; intro g' L' h' FG' F' N' B' X' T' kG'; (try dsimp only))
  have kS' := Sub.ofG kG'
  clear kG'
  have hla' := IsList.sub hla kS'
  have hlb' := IsList.sub hlb kS'
  clear hla hlb N
  (try k_lift B')
  (try k_fold)
  k_steps
  all_goals first
    | (exfalso; contradiction)
    | (refine hret _ _ _ _ _ _ kS' (by k_asm) (by assumption) (right_nil (by assumption) (by assumption)); done)
    | (refine hret _ _ _ _ _ _ kS' (by k_asm) (by assumption) (right_short (by assumption) (by assumption)); done)
    | (refine hret _ _ _ _ _ _ kS' (by k_asm) (by assumption) (right_ret (right_long hb hk0 (by assumption) (by assumption) (by assumption) (by assumption))); done)
end PC9
end Mine

namespace Mine
section PC10
open PySem PySem.W PySem.Calls PyProof.Rows
set_option maxRecDepth 100000
local macro_rules | `(tactic| tb_rel) => `(tactic| first | assumption | exact lim_nil | (refine lim_take ?_ _; tb_rel) | (refine lim_drop ?_ _; tb_rel) | (refine lim_append ?_ ?_ <;> tb_rel))
local macro_rules | `(tactic| tb_start) => `(tactic| ((try simp only [List.length_append, List.length_cons, List.length_nil, List.length_take, List.length_drop]); omega))

set_option maxHeartbeats 2000000 in
theorem take_C (w : World) (mean : ExcName → Option Value) (mg mb : Str → Option Value) (sk c : Addr) (k : Int) (t1 : Tok) (A : List Int) (q : Int) (tq : Tok) :
    TurnC PySem.Challenge.rw_pq0550_01.row.prog w (hd.heap_39 w.params) hd.view_39 (looseW hd.view_39 []) mean mg mb 63 4 [.ref sk, .int q tq] sk (listOf #[.int k t1, .ref c] 0)
      (fun h => ListAt h c A ∧ c ≠ sk ∧ A.length < 100 ∧ 0 ≤ k ∧ k < 100 ∧ 1 ≤ q ∧ q ≤ 512) (fun v o => ∃ r t t', v = .int r t ∧ 0 ≤ r ∧ r < q ∧ o = listOf #[.int (k + 1) t', .ref c] 0) := by
  w_top off
  k_with_none
  k_fill
  refine TurnC.of ?_
  intro dp un gd cn cs a ccd cl outer A₀ base h₀ L m s Q E Bl F X N T hk hA hd hu hret
  obtain ⟨⟨va, hla, hia⟩, hcs, hlenA, hk0, hk1, hq0, hq1⟩ := hA
  refine wpAny_call ?_
  k_dflt (refine' code_defG ?k1 ?k2 ?k3 ?k4 ?k5 ?kA ?kF ?kK ?k6 ?k7 ?k8 ?k9 ?kB ?_ ?c2 ?c3 ?c4 ?c5; (case kA => exact rfl); (case kF => exact rfl); (case kK => assumption); (case k1 => k_asm); (case k2 => k_asm); (case k3 => k_asm); (case k4 => k_asm); (case k5 => k_asm); (case k6 => k_is); (case k7 => k_is); (case k8 => ktr_room); (case k9 => exact BindsTo.of_eq rfl); (case c5 => decide); (case kB => exact locs rfl); (case c2 => exact rfl); (case c3 => exact rfl); (case c4 => exact rfl); k_whole; intro g' L' h' FG' F' N' B' X' T' kG'; (try dsimp only))
  have kS' := But.ofG kG'
  clear kG'
  have hla' := IsList.but hla kS' hcs
  clear hla
  (try k_lift B')
  (try k_fold)
  k_steps
  all_goals (refine hret _ _ _ _ _ _ _ _ kS' (by k_asm) (by k_asm) (by first | exact List.Mem.head _ | exact List.Mem.tail _ (List.Mem.head _)) (by assumption) ⟨_, _, _, rfl, fm_nn (by omega), fm_lt (by omega), rfl⟩)
end PC10
end Mine

namespace Mine
section PC11
open PySem PySem.W PySem.Calls PyProof.Rows
set_option maxRecDepth 100000
local macro_rules | `(tactic| tb_rel) => `(tactic| first | assumption | exact lim_nil | (refine lim_take ?_ _; tb_rel) | (refine lim_drop ?_ _; tb_rel) | (refine lim_append ?_ ?_ <;> tb_rel))
local macro_rules | `(tactic| tb_start) => `(tactic| ((try simp only [List.length_append, List.length_cons, List.length_nil, List.length_take, List.length_drop]); omega))
local macro_rules | `(tactic| walk_at "call ref") => `(tactic| ((with_reducible show wpAny _ _ (call (Value.ref 63) [Value.ref _, Value.int _ _]) _ _ _); k_dflt (first | (refine' TurnC.use [] _ ?kB ?kF ?kX ?kN ?kT ?kK ?kP (take_C _ _ _ _ _ _ _ _ _ _ _) ?kA ?kd ?ku ?_; (case kB => k_asm); (case kF => k_asm); (case kX => k_asm); (case kN => k_asm); (case kT => k_asm); (case kK => first | exact rfl | assumption); (case kP => ((try simp only [List.nil_append, List.cons_append]); (repeat' (first | exact List.forall_mem_nil _ | assumption | (refine List.forall_mem_cons.mpr ⟨?_, ?_⟩) | (refine neN ?_; (try dsimp only); omega))))); (case kA => exact ⟨⟨_, by is_list, by l_ints⟩, by (first | assumption | exact neN (by omega)), by tb_start, by omega, by omega, by omega, by omega⟩); (case kd => ktr_room); (case ku => ktr_units)) | (refine' TurnC.use [_] _ ?kB ?kF ?kX ?kN ?kT ?kK ?kP (take_C _ _ _ _ _ _ _ _ _ _ _) ?kA ?kd ?ku ?_; (case kB => k_asm); (case kF => k_asm); (case kX => k_asm); (case kN => k_asm); (case kT => k_asm); (case kK => first | exact rfl | assumption); (case kP => ((try simp only [List.nil_append, List.cons_append]); (repeat' (first | exact List.forall_mem_nil _ | assumption | (refine List.forall_mem_cons.mpr ⟨?_, ?_⟩) | (refine neN ?_; (try dsimp only); omega))))); (case kA => exact ⟨⟨_, by is_list, by l_ints⟩, by (first | assumption | exact neN (by omega)), by tb_start, by omega, by omega, by omega, by omega⟩); (case kd => ktr_room); (case ku => ktr_units)) | (refine' TurnC.use [_, _] _ ?kB ?kF ?kX ?kN ?kT ?kK ?kP (take_C _ _ _ _ _ _ _ _ _ _ _) ?kA ?kd ?ku ?_; (case kB => k_asm); (case kF => k_asm); (case kX => k_asm); (case kN => k_asm); (case kT => k_asm); (case kK => first | exact rfl | assumption); (case kP => ((try simp only [List.nil_append, List.cons_append]); (repeat' (first | exact List.forall_mem_nil _ | assumption | (refine List.forall_mem_cons.mpr ⟨?_, ?_⟩) | (refine neN ?_; (try dsimp only); omega))))); (case kA => exact ⟨⟨_, by is_list, by l_ints⟩, by (first | assumption | exact neN (by omega)), by tb_start, by omega, by omega, by omega, by omega⟩); (case kd => ktr_room); (case ku => ktr_units)) | (refine' TurnC.use [_, _, _] _ ?kB ?kF ?kX ?kN ?kT ?kK ?kP (take_C _ _ _ _ _ _ _ _ _ _ _) ?kA ?kd ?ku ?_; (case kB => k_asm); (case kF => k_asm); (case kX => k_asm); (case kN => k_asm); (case kT => k_asm); (case kK => first | exact rfl | assumption); (case kP => ((try simp only [List.nil_append, List.cons_append]); (repeat' (first | exact List.forall_mem_nil _ | assumption | (refine List.forall_mem_cons.mpr ⟨?_, ?_⟩) | (refine neN ?_; (try dsimp only); omega))))); (case kA => exact ⟨⟨_, by is_list, by l_ints⟩, by (first | assumption | exact neN (by omega)), by tb_start, by omega, by omega, by omega, by omega⟩); (case kd => ktr_room); (case ku => ktr_units)) | (refine' TurnC.use [_, _, _, _] _ ?kB ?kF ?kX ?kN ?kT ?kK ?kP (take_C _ _ _ _ _ _ _ _ _ _ _) ?kA ?kd ?ku ?_; (case kB => k_asm); (case kF => k_asm); (case kX => k_asm); (case kN => k_asm); (case kT => k_asm); (case kK => first | exact rfl | assumption); (case kP => ((try simp only [List.nil_append, List.cons_append]); (repeat' (first | exact List.forall_mem_nil _ | assumption | (refine List.forall_mem_cons.mpr ⟨?_, ?_⟩) | (refine neN ?_; (try dsimp only); omega))))); (case kA => exact ⟨⟨_, by is_list, by l_ints⟩, by (first | assumption | exact neN (by omega)), by tb_start, by omega, by omega, by omega, by omega⟩); (case kd => ktr_room); (case ku => ktr_units)) | (refine' TurnC.use [_, _, _, _, _] _ ?kB ?kF ?kX ?kN ?kT ?kK ?kP (take_C _ _ _ _ _ _ _ _ _ _ _) ?kA ?kd ?ku ?_; (case kB => k_asm); (case kF => k_asm); (case kX => k_asm); (case kN => k_asm); (case kT => k_asm); (case kK => first | exact rfl | assumption); (case kP => ((try simp only [List.nil_append, List.cons_append]); (repeat' (first | exact List.forall_mem_nil _ | assumption | (refine List.forall_mem_cons.mpr ⟨?_, ?_⟩) | (refine neN ?_; (try dsimp only); omega))))); (case kA => exact ⟨⟨_, by is_list, by l_ints⟩, by (first | assumption | exact neN (by omega)), by tb_start, by omega, by omega, by omega, by omega⟩); (case kd => ktr_room); (case ku => ktr_units)) | (refine' TurnC.use [_, _, _, _, _, _] _ ?kB ?kF ?kX ?kN ?kT ?kK ?kP (take_C _ _ _ _ _ _ _ _ _ _ _) ?kA ?kd ?ku ?_; (case kB => k_asm); (case kF => k_asm); (case kX => k_asm); (case kN => k_asm); (case kT => k_asm); (case kK => first | exact rfl | assumption); (case kP => ((try simp only [List.nil_append, List.cons_append]); (repeat' (first | exact List.forall_mem_nil _ | assumption | (refine List.forall_mem_cons.mpr ⟨?_, ?_⟩) | (refine neN ?_; (try dsimp only); omega))))); (case kA => exact ⟨⟨_, by is_list, by l_ints⟩, by (first | assumption | exact neN (by omega)), by tb_start, by omega, by omega, by omega, by omega⟩); (case kd => ktr_room); (case ku => ktr_units)) | (refine' TurnC.use [_, _, _, _, _, _, _] _ ?kB ?kF ?kX ?kN ?kT ?kK ?kP (take_C _ _ _ _ _ _ _ _ _ _ _) ?kA ?kd ?ku ?_; (case kB => k_asm); (case kF => k_asm); (case kX => k_asm); (case kN => k_asm); (case kT => k_asm); (case kK => first | exact rfl | assumption); (case kP => ((try simp only [List.nil_append, List.cons_append]); (repeat' (first | exact List.forall_mem_nil _ | assumption | (refine List.forall_mem_cons.mpr ⟨?_, ?_⟩) | (refine neN ?_; (try dsimp only); omega))))); (case kA => exact ⟨⟨_, by is_list, by l_ints⟩, by (first | assumption | exact neN (by omega)), by tb_start, by omega, by omega, by omega, by omega⟩); (case kd => ktr_room); (case ku => ktr_units)) | (refine' TurnC.use [_, _, _, _, _, _, _, _] _ ?kB ?kF ?kX ?kN ?kT ?kK ?kP (take_C _ _ _ _ _ _ _ _ _ _ _) ?kA ?kd ?ku ?_; (case kB => k_asm); (case kF => k_asm); (case kX => k_asm); (case kN => k_asm); (case kT => k_asm); (case kK => first | exact rfl | assumption); (case kP => ((try simp only [List.nil_append, List.cons_append]); (repeat' (first | exact List.forall_mem_nil _ | assumption | (refine List.forall_mem_cons.mpr ⟨?_, ?_⟩) | (refine neN ?_; (try dsimp only); omega))))); (case kA => exact ⟨⟨_, by is_list, by l_ints⟩, by (first | assumption | exact neN (by omega)), by tb_start, by omega, by omega, by omega, by omega⟩); (case kd => ktr_room); (case ku => ktr_units))); intro v9 o9 h9 tk9 F9 N9 hs9 ho9; obtain ⟨r9, t9, t9', e9, hr9a, hr9b, eo9⟩ := ho9; subst e9; subst eo9; (try simp only [List.nil_append, List.cons_append] at N9); (try dsimp only); (try k_fold)))
local macro_rules | `(tactic| walk_at "CompSrc") => `(tactic| (k_here; k_dflt (refine LCg.CompSrc.range (by rfl) (by k_asm) (by k_asm) (by assumption) (by exact small_one (by omega) (by omega) (by omega) (by omega)) (by exact rangeSize_nat _ _) (by (rw [PySem.sizeLine_eq]; omega)) ?_); intro g7; k_extra "comp"))

set_option maxHeartbeats 2000000 in
theorem limbs_C (w : World) (mean : ExcName → Option Value) (mg mb : Str → Option Value) (sk c : Addr) (k : Int) (t1 : Tok) (va : List Value) (nc : Nat) (A : List Int) (q : Int) (tq : Tok) (e : Int) (te : Tok) (b : Int) :
    TurnL PySem.Challenge.rw_pq0550_01.row.prog w (hd.heap_39 w.params) hd.view_39 (looseW hd.view_39 []) mean mg mb 68 8 [.ref sk, .int q tq, .int e te] sk c (listOf #[.int k t1, .ref c] 0) (listOf va.toArray nc)
      (IntsAre va A ∧ A.length < 100 ∧ 0 ≤ k ∧ k < 80 ∧ 0 ≤ q ∧ q < 8 ∧ 2 ≤ e ∧ e ≤ 9 ∧ b = 2 ^ e.toNat ∧ b ≤ 512 ∧ 4 ≤ b) (fun R o => Lim b R ∧ Norm R ∧ R.length ≤ 8 ∧ ∃ k' t', o = listOf #[.int k' t', .ref c] 0 ∧ 0 ≤ k' ∧ k' ≤ k + 8) := by
  w_top off
  k_with_none
  k_with "comp" => (
    (k_dflt (refine' cr_go b (by omega) (by omega) ?ct7 ?cf7))
    (case' ct7 => intro kk7 t7 v7 I7 oI7 C7 oC7 D7 ys7 m7 h7 tk7 E7 hk7 hl7 hn7 hx7 F7 N7 off7 ne7; (simp only [LCg.Off3] at off7); (try k_fold))
    (case' cf7 => intro ys7 ns7 kk7 t7 hI7 hL7 hl7 hk7; (try k_fold))
  )
  k_fill
  intro dp un gd cn cs a ccd cl outer A₀ base h₀ L m rest s Q E Bl F X N T hk hrest hcs hA hd hu hret
  obtain ⟨hia, hlenA, hk0, hk1, hq0, hq1, he0, he1, hb, hb1, hb2⟩ := hA
  refine wpAny_call ?_
  k_dflt (refine' code_defC ?k1 ?k2 ?k3 ?k4 ?k5 ?kA ?kF ?kK ?k6 ?k7 ?k8 ?k9 ?kB ?kD ?_ ?c2 ?c3 ?c4; (case kA => exact rfl); (case kF => exact rfl); (case kK => assumption); (case k1 => k_asm); (case k2 => k_asm); (case k3 => k_asm); (case k4 => k_asm); (case k5 => k_asm); (case k6 => k_is); (case k7 => k_is); (case k8 => ktr_room); (case k9 => exact BindsTo.of_eq rfl); (case kB => exact rfl); (case kD => decide +kernel); (case c2 => exact rfl); (case c3 => exact rfl); (case c4 => exact rfl); k_whole; intro g' L' h' tk' cells' FG' F' N' Y' B' X' T' l1; (have l2 := List.forall_mem_cons.mp l1); (have l3 := List.forall_mem_cons.mp l2.2); (have l4 : @LT.lt Nat _ sk L' := l2.1); (have l5 : @LT.lt Nat _ c L' := l3.1); clear l1 l2 l3; k_cells Y'; (try simp only [List.cons_append, List.nil_append] at N'); (try dsimp only))
  (try k_lift B')
  (try k_fold)
  k_steps
  · refine hret _ [] [] 0 _ _ _ (by k_asm) (news_sub (by k_asm) (List.forall_mem_cons.mpr ⟨by k_mem, List.forall_mem_cons.mpr ⟨by k_mem, List.forall_mem_cons.mpr ⟨by k_mem, (by intro p hp; kst_mem)⟩⟩⟩)) (neN (by omega)) .nil ⟨lim_nil, .inl rfl, by simp, _, _, rfl, by omega, by omega⟩
  · refine hret _ _ _ 0 _ _ _ (by k_asm) (news_sub (by k_asm) (List.forall_mem_cons.mpr ⟨by k_mem, List.forall_mem_cons.mpr ⟨by k_mem, List.forall_mem_cons.mpr ⟨by k_mem, (by intro p hp; kst_mem)⟩⟩⟩)) (neN (by omega)) (by assumption) ⟨lim_append hL7 (lim_one (by omega) (top_lt (by assumption) hb)), norm_one (by omega), by (simp only [List.length_append, List.length_singleton]; omega), _, _, rfl, by omega, by omega⟩
  · refine LCg.CompEnd.intro (by assumption) (by assumption) (_ :: _ :: (sk, listOf #[.int (kk7 + 1) _, .ref c] 0) :: _) (fun p hp => hp) (by (simp only [LCg.Off3]; exact off7)) trivial ⟨_, _, _, rfl, by assumption, low_lt (by assumption) hb, rfl⟩
end PC11
end Mine

namespace Mine
section PC12
open PySem PySem.W PySem.Calls PyProof.Rows
set_option maxRecDepth 100000
theorem limbs_D (w : World) (mean : ExcName → Option Value) (mg mb : Str → Option Value) (sk c : Addr) (k : Int) (t1 : Tok) (va : List Value) (nc : Nat) (A : List Int) (q : Int) (tq : Tok) (e : Int) (te : Tok) :
    TurnL PySem.Challenge.rw_pq0550_01.row.prog w (hd.heap_39 w.params) hd.view_39 (looseW hd.view_39 []) mean mg mb 68 8 [.ref sk, .int q tq, .int e te] sk c (listOf #[.int k t1, .ref c] 0) (listOf va.toArray nc)
      (IntsAre va A ∧ A.length < 100 ∧ 0 ≤ k ∧ k < 80 ∧ 0 ≤ q ∧ q < 8 ∧ 2 ≤ e ∧ e ≤ 9) (fun R o => Lim (2 ^ e.toNat) R ∧ Norm R ∧ R.length ≤ 8 ∧ ∃ k' t', o = listOf #[.int k' t', .ref c] 0 ∧ 0 ≤ k' ∧ k' ≤ k + 8) := by
  intro dp un gd cn cs a ccd cl outer A₀ base h₀ L m rest s Q E Bl F X N T hk hrest hcs hA hd hu hret
  obtain ⟨h1, h2, h3, h4, h5, h6, h7, h8⟩ := hA
  exact limbs_C w mean mg mb sk c k t1 va nc A q tq e te (2 ^ e.toNat) dp un gd cn cs a ccd cl outer A₀ base h₀ L m rest s Q E Bl F X N T hk hrest hcs ⟨h1, h2, h3, h4, h5, h6, h7, h8, rfl, pw_hi h8, pw_lo h7⟩ hd hu hret
theorem right_D (w : World) (mean : ExcName → Option Value) (mg mb : Str → Option Value) (la lb : Addr) (A B : List Int) (k : Int) (tk : Tok) :
    PureV PySem.Challenge.rw_pq0550_01.row.prog w (hd.heap_39 w.params) hd.view_39 (looseW hd.view_39 []) mean mg mb 89 16 [.ref la, .ref lb, .int k tk]
      (fun h => ListAt h la A ∧ ListAt h lb B ∧ A.length ≤ 8 ∧ B.length ≤ 8 ∧ Lim (2 ^ k.toNat) A ∧ Lim (2 ^ k.toNat) B ∧ 2 ≤ k ∧ k ≤ 9) (fun v => v = .bool true) := by
  intro dp un gd cn cs a ccd cl outer A₀ base h₀ L m news s Q E Bl F X N T hk hA hd hu hret
  obtain ⟨h1, h2, h3, h4, h5, h6, h7, h8⟩ := hA
  exact right_C w mean mg mb la lb A B k tk (2 ^ k.toNat) dp un gd cn cs a ccd cl outer A₀ base h₀ L m news s Q E Bl F X N T hk ⟨h1, h2, h3, h4, h5, h6, h7, h8, rfl, pw_hi h8, pw_lo h7⟩ hd hu hret
end PC12
end Mine

section PLaw
open PySem PySem.W PySem.Calls PyProof.Rows Mine
local macro_rules | `(tactic| tb_rel) => `(tactic| first | assumption | exact lim_nil | (refine lim_take ?_ _; tb_rel) | (refine lim_drop ?_ _; tb_rel) | (refine lim_append ?_ ?_ <;> tb_rel))
local macro_rules | `(tactic| tb_start) => `(tactic| ((try simp only [List.length_append, List.length_cons, List.length_nil, List.length_take, List.length_drop]); omega))
local macro_rules | `(tactic| units_room) => `(tactic| ktr_units)
local macro_rules | `(tactic| walk_at "call ref") => `(tactic| ((with_reducible show wpAny _ _ (call (Value.ref 63) [Value.ref _, Value.int _ _]) _ _ _); k_dflt (first | (refine' TurnC.use [] _ ?kB ?kF ?kX ?kN ?kT ?kK ?kP (take_C _ _ _ _ _ _ _ _ _ _ _) ?kA ?kd ?ku ?_; (case kB => k_asm); (case kF => k_asm); (case kX => k_asm); (case kN => k_asm); (case kT => k_asm); (case kK => first | exact rfl | assumption); (case kP => ((try simp only [List.nil_append, List.cons_append]); (repeat' (first | exact List.forall_mem_nil _ | assumption | (refine List.forall_mem_cons.mpr ⟨?_, ?_⟩) | (refine neN ?_; (try dsimp only); omega))))); (case kA => exact ⟨⟨_, by is_list, by l_ints⟩, by (first | assumption | exact neN (by omega)), by tb_start, by omega, by omega, by omega, by omega⟩); (case kd => ktr_room); (case ku => ktr_units)) | (refine' TurnC.use [_] _ ?kB ?kF ?kX ?kN ?kT ?kK ?kP (take_C _ _ _ _ _ _ _ _ _ _ _) ?kA ?kd ?ku ?_; (case kB => k_asm); (case kF => k_asm); (case kX => k_asm); (case kN => k_asm); (case kT => k_asm); (case kK => first | exact rfl | assumption); (case kP => ((try simp only [List.nil_append, List.cons_append]); (repeat' (first | exact List.forall_mem_nil _ | assumption | (refine List.forall_mem_cons.mpr ⟨?_, ?_⟩) | (refine neN ?_; (try dsimp only); omega))))); (case kA => exact ⟨⟨_, by is_list, by l_ints⟩, by (first | assumption | exact neN (by omega)), by tb_start, by omega, by omega, by omega, by omega⟩); (case kd => ktr_room); (case ku => ktr_units)) | (refine' TurnC.use [_, _] _ ?kB ?kF ?kX ?kN ?kT ?kK ?kP (take_C _ _ _ _ _ _ _ _ _ _ _) ?kA ?kd ?ku ?_; (case kB => k_asm); (case kF => k_asm); (case kX => k_asm); (case kN => k_asm); (case kT => k_asm); (case kK => first | exact rfl | assumption); (case kP => ((try simp only [List.nil_append, List.cons_append]); (repeat' (first | exact List.forall_mem_nil _ | assumption | (refine List.forall_mem_cons.mpr ⟨?_, ?_⟩) | (refine neN ?_; (try dsimp only); omega))))); (case kA => exact ⟨⟨_, by is_list, by l_ints⟩, by (first | assumption | exact neN (by omega)), by tb_start, by omega, by omega, by omega, by omega⟩); (case kd => ktr_room); (case ku => ktr_units)) | (refine' TurnC.use [_, _, _] _ ?kB ?kF ?kX ?kN ?kT ?kK ?kP (take_C _ _ _ _ _ _ _ _ _ _ _) ?kA ?kd ?ku ?_; (case kB => k_asm); (case kF => k_asm); (case kX => k_asm); (case kN => k_asm); (case kT => k_asm); (case kK => first | exact rfl | assumption); (case kP => ((try simp only [List.nil_append, List.cons_append]); (repeat' (first | exact List.forall_mem_nil _ | assumption | (refine List.forall_mem_cons.mpr ⟨?_, ?_⟩) | (refine neN ?_; (try dsimp only); omega))))); (case kA => exact ⟨⟨_, by is_list, by l_ints⟩, by (first | assumption | exact neN (by omega)), by tb_start, by omega, by omega, by omega, by omega⟩); (case kd => ktr_room); (case ku => ktr_units)) | (refine' TurnC.use [_, _, _, _] _ ?kB ?kF ?kX ?kN ?kT ?kK ?kP (take_C _ _ _ _ _ _ _ _ _ _ _) ?kA ?kd ?ku ?_; (case kB => k_asm); (case kF => k_asm); (case kX => k_asm); (case kN => k_asm); (case kT => k_asm); (case kK => first | exact rfl | assumption); (case kP => ((try simp only [List.nil_append, List.cons_append]); (repeat' (first | exact List.forall_mem_nil _ | assumption | (refine List.forall_mem_cons.mpr ⟨?_, ?_⟩) | (refine neN ?_; (try dsimp only); omega))))); (case kA => exact ⟨⟨_, by is_list, by l_ints⟩, by (first | assumption | exact neN (by omega)), by tb_start, by omega, by omega, by omega, by omega⟩); (case kd => ktr_room); (case ku => ktr_units)) | (refine' TurnC.use [_, _, _, _, _] _ ?kB ?kF ?kX ?kN ?kT ?kK ?kP (take_C _ _ _ _ _ _ _ _ _ _ _) ?kA ?kd ?ku ?_; (case kB => k_asm); (case kF => k_asm); (case kX => k_asm); (case kN => k_asm); (case kT => k_asm); (case kK => first | exact rfl | assumption); (case kP => ((try simp only [List.nil_append, List.cons_append]); (repeat' (first | exact List.forall_mem_nil _ | assumption | (refine List.forall_mem_cons.mpr ⟨?_, ?_⟩) | (refine neN ?_; (try dsimp only); omega))))); (case kA => exact ⟨⟨_, by is_list, by l_ints⟩, by (first | assumption | exact neN (by omega)), by tb_start, by omega, by omega, by omega, by omega⟩); (case kd => ktr_room); (case ku => ktr_units)) | (refine' TurnC.use [_, _, _, _, _, _] _ ?kB ?kF ?kX ?kN ?kT ?kK ?kP (take_C _ _ _ _ _ _ _ _ _ _ _) ?kA ?kd ?ku ?_; (case kB => k_asm); (case kF => k_asm); (case kX => k_asm); (case kN => k_asm); (case kT => k_asm); (case kK => first | exact rfl | assumption); (case kP => ((try simp only [List.nil_append, List.cons_append]); (repeat' (first | exact List.forall_mem_nil _ | assumption | (refine List.forall_mem_cons.mpr ⟨?_, ?_⟩) | (refine neN ?_; (try dsimp only); omega))))); (case kA => exact ⟨⟨_, by is_list, by l_ints⟩, by (first | assumption | exact neN (by omega)), by tb_start, by omega, by omega, by omega, by omega⟩); (case kd => ktr_room); (case ku => ktr_units)) | (refine' TurnC.use [_, _, _, _, _, _, _] _ ?kB ?kF ?kX ?kN ?kT ?kK ?kP (take_C _ _ _ _ _ _ _ _ _ _ _) ?kA ?kd ?ku ?_; (case kB => k_asm); (case kF => k_asm); (case kX => k_asm); (case kN => k_asm); (case kT => k_asm); (case kK => first | exact rfl | assumption); (case kP => ((try simp only [List.nil_append, List.cons_append]); (repeat' (first | exact List.forall_mem_nil _ | assumption | (refine List.forall_mem_cons.mpr ⟨?_, ?_⟩) | (refine neN ?_; (try dsimp only); omega))))); (case kA => exact ⟨⟨_, by is_list, by l_ints⟩, by (first | assumption | exact neN (by omega)), by tb_start, by omega, by omega, by omega, by omega⟩); (case kd => ktr_room); (case ku => ktr_units)) | (refine' TurnC.use [_, _, _, _, _, _, _, _] _ ?kB ?kF ?kX ?kN ?kT ?kK ?kP (take_C _ _ _ _ _ _ _ _ _ _ _) ?kA ?kd ?ku ?_; (case kB => k_asm); (case kF => k_asm); (case kX => k_asm); (case kN => k_asm); (case kT => k_asm); (case kK => first | exact rfl | assumption); (case kP => ((try simp only [List.nil_append, List.cons_append]); (repeat' (first | exact List.forall_mem_nil _ | assumption | (refine List.forall_mem_cons.mpr ⟨?_, ?_⟩) | (refine neN ?_; (try dsimp only); omega))))); (case kA => exact ⟨⟨_, by is_list, by l_ints⟩, by (first | assumption | exact neN (by omega)), by tb_start, by omega, by omega, by omega, by omega⟩); (case kd => ktr_room); (case ku => ktr_units))); intro v9 o9 h9 tk9 F9 N9 hs9 ho9; obtain ⟨r9, t9, t9', e9, hr9a, hr9b, eo9⟩ := ho9; subst e9; subst eo9; (try simp only [List.nil_append, List.cons_append] at N9); (try dsimp only); (try k_fold)))
local macro_rules | `(tactic| walk_at "call ref") => `(tactic| ((with_reducible show wpAny _ _ (call (Value.ref 68) [Value.ref _, Value.int _ _, Value.int _ _]) _ _ _); k_dflt (first | (refine' TurnL.use [] _ ?kB ?kF ?kX ?kN ?kT ?kK ?kC ?kP (limbs_D _ _ _ _ _ _ _ _ _ _ _ _ _ _ _) ?kA ?kd ?ku ?_; (case kB => k_asm); (case kF => k_asm); (case kX => k_asm); (case kN => k_asm); (case kT => k_asm); (case kK => first | exact rfl | assumption); (case kC => ((try simp only [List.nil_append, List.cons_append]); k_mem)); (case kP => ((try simp only [List.nil_append, List.cons_append]); (repeat' (first | exact List.forall_mem_nil _ | assumption | (refine List.forall_mem_cons.mpr ⟨?_, ?_⟩) | (refine neN ?_; (try dsimp only); omega))))); (case kA => exact ⟨by l_ints, by tb_start, by omega, by omega, by omega, by omega, by omega, by omega⟩); (case kd => ktr_room); (case ku => ktr_units)) | (refine' TurnL.use [_] _ ?kB ?kF ?kX ?kN ?kT ?kK ?kC ?kP (limbs_D _ _ _ _ _ _ _ _ _ _ _ _ _ _ _) ?kA ?kd ?ku ?_; (case kB => k_asm); (case kF => k_asm); (case kX => k_asm); (case kN => k_asm); (case kT => k_asm); (case kK => first | exact rfl | assumption); (case kC => ((try simp only [List.nil_append, List.cons_append]); k_mem)); (case kP => ((try simp only [List.nil_append, List.cons_append]); (repeat' (first | exact List.forall_mem_nil _ | assumption | (refine List.forall_mem_cons.mpr ⟨?_, ?_⟩) | (refine neN ?_; (try dsimp only); omega))))); (case kA => exact ⟨by l_ints, by tb_start, by omega, by omega, by omega, by omega, by omega, by omega⟩); (case kd => ktr_room); (case ku => ktr_units)) | (refine' TurnL.use [_, _] _ ?kB ?kF ?kX ?kN ?kT ?kK ?kC ?kP (limbs_D _ _ _ _ _ _ _ _ _ _ _ _ _ _ _) ?kA ?kd ?ku ?_; (case kB => k_asm); (case kF => k_asm); (case kX => k_asm); (case kN => k_asm); (case kT => k_asm); (case kK => first | exact rfl | assumption); (case kC => ((try simp only [List.nil_append, List.cons_append]); k_mem)); (case kP => ((try simp only [List.nil_append, List.cons_append]); (repeat' (first | exact List.forall_mem_nil _ | assumption | (refine List.forall_mem_cons.mpr ⟨?_, ?_⟩) | (refine neN ?_; (try dsimp only); omega))))); (case kA => exact ⟨by l_ints, by tb_start, by omega, by omega, by omega, by omega, by omega, by omega⟩); (case kd => ktr_room); (case ku => ktr_units)) | (refine' TurnL.use [_, _, _] _ ?kB ?kF ?kX ?kN ?kT ?kK ?kC ?kP (limbs_D _ _ _ _ _ _ _ _ _ _ _ _ _ _ _) ?kA ?kd ?ku ?_; (case kB => k_asm); (case kF => k_asm); (case kX => k_asm); (case kN => k_asm); (case kT => k_asm); (case kK => first | exact rfl | assumption); (case kC => ((try simp only [List.nil_append, List.cons_append]); k_mem)); (case kP => ((try simp only [List.nil_append, List.cons_append]); (repeat' (first | exact List.forall_mem_nil _ | assumption | (refine List.forall_mem_cons.mpr ⟨?_, ?_⟩) | (refine neN ?_; (try dsimp only); omega))))); (case kA => exact ⟨by l_ints, by tb_start, by omega, by omega, by omega, by omega, by omega, by omega⟩); (case kd => ktr_room); (case ku => ktr_units)) | (refine' TurnL.use [_, _, _, _] _ ?kB ?kF ?kX ?kN ?kT ?kK ?kC ?kP (limbs_D _ _ _ _ _ _ _ _ _ _ _ _ _ _ _) ?kA ?kd ?ku ?_; (case kB => k_asm); (case kF => k_asm); (case kX => k_asm); (case kN => k_asm); (case kT => k_asm); (case kK => first | exact rfl | assumption); (case kC => ((try simp only [List.nil_append, List.cons_append]); k_mem)); (case kP => ((try simp only [List.nil_append, List.cons_append]); (repeat' (first | exact List.forall_mem_nil _ | assumption | (refine List.forall_mem_cons.mpr ⟨?_, ?_⟩) | (refine neN ?_; (try dsimp only); omega))))); (case kA => exact ⟨by l_ints, by tb_start, by omega, by omega, by omega, by omega, by omega, by omega⟩); (case kd => ktr_room); (case ku => ktr_units)) | (refine' TurnL.use [_, _, _, _, _] _ ?kB ?kF ?kX ?kN ?kT ?kK ?kC ?kP (limbs_D _ _ _ _ _ _ _ _ _ _ _ _ _ _ _) ?kA ?kd ?ku ?_; (case kB => k_asm); (case kF => k_asm); (case kX => k_asm); (case kN => k_asm); (case kT => k_asm); (case kK => first | exact rfl | assumption); (case kC => ((try simp only [List.nil_append, List.cons_append]); k_mem)); (case kP => ((try simp only [List.nil_append, List.cons_append]); (repeat' (first | exact List.forall_mem_nil _ | assumption | (refine List.forall_mem_cons.mpr ⟨?_, ?_⟩) | (refine neN ?_; (try dsimp only); omega))))); (case kA => exact ⟨by l_ints, by tb_start, by omega, by omega, by omega, by omega, by omega, by omega⟩); (case kd => ktr_room); (case ku => ktr_units)) | (refine' TurnL.use [_, _, _, _, _, _] _ ?kB ?kF ?kX ?kN ?kT ?kK ?kC ?kP (limbs_D _ _ _ _ _ _ _ _ _ _ _ _ _ _ _) ?kA ?kd ?ku ?_; (case kB => k_asm); (case kF => k_asm); (case kX => k_asm); (case kN => k_asm); (case kT => k_asm); (case kK => first | exact rfl | assumption); (case kC => ((try simp only [List.nil_append, List.cons_append]); k_mem)); (case kP => ((try simp only [List.nil_append, List.cons_append]); (repeat' (first | exact List.forall_mem_nil _ | assumption | (refine List.forall_mem_cons.mpr ⟨?_, ?_⟩) | (refine neN ?_; (try dsimp only); omega))))); (case kA => exact ⟨by l_ints, by tb_start, by omega, by omega, by omega, by omega, by omega, by omega⟩); (case kd => ktr_room); (case ku => ktr_units)) | (refine' TurnL.use [_, _, _, _, _, _, _] _ ?kB ?kF ?kX ?kN ?kT ?kK ?kC ?kP (limbs_D _ _ _ _ _ _ _ _ _ _ _ _ _ _ _) ?kA ?kd ?ku ?_; (case kB => k_asm); (case kF => k_asm); (case kX => k_asm); (case kN => k_asm); (case kT => k_asm); (case kK => first | exact rfl | assumption); (case kC => ((try simp only [List.nil_append, List.cons_append]); k_mem)); (case kP => ((try simp only [List.nil_append, List.cons_append]); (repeat' (first | exact List.forall_mem_nil _ | assumption | (refine List.forall_mem_cons.mpr ⟨?_, ?_⟩) | (refine neN ?_; (try dsimp only); omega))))); (case kA => exact ⟨by l_ints, by tb_start, by omega, by omega, by omega, by omega, by omega, by omega⟩); (case kd => ktr_room); (case ku => ktr_units)) | (refine' TurnL.use [_, _, _, _, _, _, _, _] _ ?kB ?kF ?kX ?kN ?kT ?kK ?kC ?kP (limbs_D _ _ _ _ _ _ _ _ _ _ _ _ _ _ _) ?kA ?kd ?ku ?_; (case kB => k_asm); (case kF => k_asm); (case kX => k_asm); (case kN => k_asm); (case kT => k_asm); (case kK => first | exact rfl | assumption); (case kC => ((try simp only [List.nil_append, List.cons_append]); k_mem)); (case kP => ((try simp only [List.nil_append, List.cons_append]); (repeat' (first | exact List.forall_mem_nil _ | assumption | (refine List.forall_mem_cons.mpr ⟨?_, ?_⟩) | (refine neN ?_; (try dsimp only); omega))))); (case kA => exact ⟨by l_ints, by tb_start, by omega, by omega, by omega, by omega, by omega, by omega⟩); (case kd => ktr_room); (case ku => ktr_units))); intro l9 vr9 R9 n9 o9 h9 tk9 F9 N9 hl9 hi9 ho9; obtain ⟨hL9, hN9, hE9, k9, t9, eo9, hk9a, hk9b⟩ := ho9; subst eo9; (try simp only [List.nil_append, List.cons_append] at N9); (try dsimp only); (try k_fold)))
local macro_rules | `(tactic| walk_at "call ref") => `(tactic| ((with_reducible show wpAny _ _ (call (Value.ref 89) [Value.ref _, Value.ref _, Value.int _ _]) _ _ _); k_dflt (refine' PureV.use ?kB ?kF ?kX ?kN ?kT ?kK (right_D _ _ _ _ _ _ _ _ _ _) ?kA ?kd ?ku ?_; (case kB => k_asm); (case kF => k_asm); (case kX => k_asm); (case kN => k_asm); (case kT => k_asm); (case kK => first | exact rfl | assumption); (case kA => exact ⟨⟨_, by is_list, by l_ints⟩, ⟨_, by is_list, by l_ints⟩, by assumption, by assumption, by assumption, by assumption, by omega, by omega⟩); (case kd => ktr_room); (case ku => ktr_units); intro v9 h9 tk9 F9 N9 hs9 ho9; (have e9 : v9 = Value.bool true := ho9); clear ho9; subst e9; (try dsimp only); (try k_fold))))
local macro_rules | `(tactic| walk_at "compareOp Eq ref ref") => `(tactic| (k_here; (with_reducible show wpAny _ _ (compareOp CmpOp.Eq (Value.ref _) (Value.ref _)) _ _ _); k_dflt (refine' eq_pair ?e1 ?e2 ?e3 ?e4 ?e5 ?e6 ?e7 ?e8 ?e9 ?e0 ?_; (case e1 => k_asm); (case e2 => k_mem); (case e3 => k_mem); (case e4 => k_mem); (case e5 => k_mem); (case e6 => k_mem); (case e7 => k_mem); (case e8 => assumption); (case e9 => assumption); (case e0 => (simp only [units_under_make, units_in1, units_deeper, Around.mark_units, units_caller]; decide)))))
set_option maxRecDepth 100000 in
set_option maxHeartbeats 4000000 in
theorem PySem.Challenge.cw_pq0550_01_holds : PySem.Challenge.rw_pq0550_01.Holds := by
  refine Mine.hd ?_
  w_top off
  k_with_none
  k_go0
  (all_goals try k_fold)
  k_steps
end PLaw
