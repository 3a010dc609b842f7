import PyProof.Rows.All
import Wide.All
import OpenK.AllK
import Wide.FinOn
import PySem.Challenge.RW_pq0540_01
set_option Elab.async false
set_option linter.unusedVariables false
set_option linter.unusedSimpArgs false
section
namespace Mine
theorem nroom0 {a k N M : Nat} (h : a + k < N := by with_reducible assumption) (hN : N ≤ M := by decide) : a < M := Nat.lt_of_le_of_lt (Nat.le_add_right a k) (Nat.lt_of_lt_of_le h hN)
theorem nroom1 {a k N M j : Nat} (h : a + k < N := by with_reducible assumption) (hN : N ≤ M := by decide) (e : j ≤ k := by decide) : a + j < M :=
  Nat.lt_of_le_of_lt (Nat.add_le_add_left e a) (Nat.lt_of_lt_of_le h hN)
theorem nroom2 {a k N M j i : Nat} (h : a + k < N := by with_reducible assumption) (hN : N ≤ M := by decide) (e : (j + i) ≤ k := by decide) : a + j + i < M := by
  rw [Nat.add_assoc]; exact nroom1 h hN e
theorem nle_tr {a b c : Nat} (h : a ≤ b := by with_reducible assumption) (e : b ≤ c := by decide) : a ≤ c := Nat.le_trans h e
theorem nle_eq {a b c d : Nat} (h : a = b := by with_reducible assumption) (h2 : b ≤ c := by with_reducible assumption) (e : c ≤ d := by decide) : a ≤ d := h ▸ Nat.le_trans h2 e
theorem nlt_tr {a b c : Nat} (h : a ≤ b := by with_reducible assumption) (e : (b + 1) ≤ c := by decide) : a < c := Nat.lt_of_le_of_lt h e
theorem ile_tr {a b c : Int} (h : a ≤ b := by with_reducible assumption) (e : b ≤ c := by decide) : a ≤ c := Int.le_trans h e
theorem ilt_tr {a b c : Int} (h : a ≤ b := by with_reducible assumption) (e : b < c := by decide) : a < c := Int.lt_of_le_of_lt h e
theorem ige_tr {a b c : Int} (h : b ≤ a := by with_reducible assumption) (e : c ≤ b := by decide) : c ≤ a := Int.le_trans e h
theorem igt_tr {a b c : Int} (h : b ≤ a := by with_reducible assumption) (e : c < b := by decide) : c < a := Int.lt_of_lt_of_le e h
theorem tn_lt {n k : Int} {N : Nat} (h : n ≤ k := by with_reducible assumption) (e : k < N ∧ 0 < N := by decide) : n.toNat < N := by omega
theorem tn_lt2 {n b k d : Int} {N : Nat} (h : n ≤ b + k := by with_reducible assumption) (h2 : b ≤ d := by with_reducible assumption) (e : d + k < N ∧ 0 < N := by decide) : n.toNat < N := by omega
end Mine
end
local macro_rules | `(tactic| omega) => `(tactic| first | with_reducible assumption | exact Mine.nroom2 | exact Mine.nroom0 | exact Mine.nle_tr | exact Mine.nle_eq | exact Mine.nlt_tr | exact Mine.ile_tr | exact Mine.ilt_tr | exact Mine.ige_tr | exact Mine.igt_tr | exact Mine.tn_lt | exact Mine.tn_lt2 | decide | lia)
local macro_rules | `(tactic| ktr_room) => `(tactic| with_reducible exact Mine.nroom2)
local macro_rules | `(tactic| ktr_units) => `(tactic| with_reducible exact Mine.nroom2)
section
/-! plain law: rows of limbs -/
namespace Mine

def val (B : Int) : List Int → Int
  | [] => 0
  | d :: r => d + B * val B r

def Dig (B : Int) (xs : List Int) : Prop := ∀ x ∈ xs, 0 ≤ x ∧ x < B

structure Rep (B : Int) (xs : List Int) (N : Int) : Prop where
  dig : Dig B xs
  val : val B xs = N
  last : xs.getLast? ≠ some 0

theorem Dig.nil {B : Int} : Dig B [] := fun _ h => nomatch h
theorem Dig.cons {B x : Int} {xs : List Int} (h : Dig B xs) (h0 : 0 ≤ x) (h1 : x < B) : Dig B (x :: xs) := fun y hy => by
  rcases List.mem_cons.mp hy with rfl | hy
  · exact ⟨h0, h1⟩
  · exact h y hy
theorem Dig.append {B : Int} {xs ys : List Int} (h : Dig B xs) (h' : Dig B ys) : Dig B (xs ++ ys) := fun y hy => by
  rcases List.mem_append.mp hy with hy | hy
  · exact h y hy
  · exact h' y hy
theorem Dig.snoc {B x : Int} {xs : List Int} (h : Dig B xs) (h0 : 0 ≤ x) (h1 : x < B) : Dig B (xs ++ [x]) := h.append (Dig.nil.cons h0 h1)
theorem Dig.tail {B x : Int} {xs : List Int} (h : Dig B (x :: xs)) : Dig B xs := fun y hy => h y (.tail _ hy)
theorem Dig.take {B : Int} {xs : List Int} (h : Dig B xs) (n : Nat) : Dig B (xs.take n) := fun y hy => h y (List.mem_of_mem_take hy)
theorem Dig.get {B x : Int} {xs : List Int} {i : Nat} (h : Dig B xs) (e : xs[i]? = some x) : 0 ≤ x ∧ x < B := h x (List.mem_of_getElem? e)
theorem Dig.set {B x : Int} {xs : List Int} {i : Nat} (h : Dig B xs) (h0 : 0 ≤ x) (h1 : x < B) : Dig B (xs.set i x) := fun y hy => by
  rcases List.mem_or_eq_of_mem_set hy with hy | rfl
  · exact h y hy
  · exact ⟨h0, h1⟩

theorem val_append (B : Int) (xs ys : List Int) : val B (xs ++ ys) = val B xs + B ^ xs.length * val B ys := by
  induction xs with
  | nil => simp [val]
  | cons d r ih => simp only [List.cons_append, val, ih, List.length_cons, Int.pow_succ]; grind
theorem val_snoc (B : Int) (xs : List Int) (x : Int) : val B (xs ++ [x]) = val B xs + B ^ xs.length * x := by
  rw [val_append]; simp [val]
theorem val_nonneg {B : Int} (hB : 0 ≤ B) {xs : List Int} (h : Dig B xs) : 0 ≤ val B xs := by
  induction xs with
  | nil => simp [val]
  | cons d r ih =>
    have := ih h.tail
    have := (h d (.head _)).1
    have := Int.mul_nonneg hB ‹0 ≤ val B r›
    simp only [val]; omega
theorem pow_pos {B : Int} (hB : 0 < B) (n : Nat) : 0 < B ^ n := by
  induction n with
  | zero => simp
  | succ n ih => rw [Int.pow_succ]; exact Int.mul_pos ih hB
theorem val_lt {B : Int} (hB : 0 < B) {xs : List Int} (h : Dig B xs) : val B xs < B ^ xs.length := by
  induction xs with
  | nil => simp [val]
  | cons d r ih =>
    have h1 := ih h.tail
    have h2 := (h d (.head _)).2
    have h3 : B * (val B r + 1) ≤ B * B ^ r.length := Int.mul_le_mul_of_nonneg_left (by omega) (by omega)
    rw [Int.mul_add] at h3
    simp only [val, List.length_cons, Int.pow_succ, Int.mul_comm _ B]; omega
theorem val_set {B : Int} : ∀ {xs : List Int} {i : Nat} {x v : Int}, xs[i]? = some x → val B (xs.set i v) = val B xs + B ^ i * (v - x)
  | [], _, _, _, h => by simp at h
  | d :: r, 0, x, v, h => by simp at h; subst h; simp [val]; omega
  | d :: r, i + 1, x, v, h => by
    simp at h
    have := val_set (B := B) (v := v) h
    simp only [List.set_cons_succ, val, this, Int.pow_succ]; grind

/-- a row that is at least the least of its length ends in no nought -/
theorem rep_of_ge {B N : Int} (hB : 0 < B) {xs : List Int} (h : Dig B xs) (hv : val B xs = N) (hn : xs ≠ [] → B ^ (xs.length - 1) ≤ N) : Rep B xs N := by
  refine ⟨h, hv, fun e => ?_⟩
  rcases List.eq_nil_or_concat xs with rfl | ⟨ys, y, rfl⟩
  · simp at e
  · simp only [List.concat_eq_append] at *
    rw [List.getLast?_append] at e
    simp at e
    subst e
    have hd : Dig B ys := fun z hz => h z (List.mem_append.mpr (.inl hz))
    have h1 := val_lt hB hd
    have h2 := hn (by simp)
    rw [val_snoc] at hv
    simp at h2 hv
    omega
theorem Rep.ge {B N : Int} (hB : 0 < B) {xs : List Int} (h : Rep B xs N) (hne : xs ≠ []) : B ^ (xs.length - 1) ≤ N := by
  rcases List.eq_nil_or_concat xs with rfl | ⟨ys, y, rfl⟩
  · exact absurd rfl hne
  · simp only [List.concat_eq_append] at *
    obtain ⟨hd, hv, hl⟩ := h
    rw [List.getLast?_append] at hl
    simp at hl
    have hy := hd y (by simp)
    have hd' : Dig B ys := fun z hz => hd z (List.mem_append.mpr (.inl hz))
    have h0 := val_nonneg (Int.le_of_lt hB) hd'
    rw [val_snoc] at hv
    have h2 : B ^ ys.length * 1 ≤ B ^ ys.length * y := Int.mul_le_mul_of_nonneg_left (by omega) (Int.le_of_lt (pow_pos hB _))
    simp at h2 ⊢
    omega
theorem Rep.nonneg {B N : Int} (hB : 0 < B) {xs : List Int} (h : Rep B xs N) : 0 ≤ N := h.val ▸ val_nonneg (Int.le_of_lt hB) h.dig
theorem Rep.lt {B N : Int} (hB : 0 < B) {xs : List Int} (h : Rep B xs N) : N < B ^ xs.length := h.val ▸ val_lt hB h.dig
theorem pow_le {B : Int} (hB : 1 ≤ B) {m n : Nat} (h : m ≤ n) : B ^ m ≤ B ^ n := by
  obtain ⟨k, rfl⟩ := Nat.exists_eq_add_of_le h
  rw [Int.pow_add]
  have h1 : 0 < B ^ m := pow_pos (by omega) m
  have h2 : 0 < B ^ k := pow_pos (by omega) k
  have : B ^ m * 1 ≤ B ^ m * B ^ k := Int.mul_le_mul_of_nonneg_left (by omega) (by omega)
  omega
/-- the longer row is the greater number -/
theorem Rep.lt_of_len {B N M : Int} (hB : 1 < B) {xs ys : List Int} (h : Rep B xs N) (h' : Rep B ys M) (hl : xs.length < ys.length) : N < M := by
  have h1 := h.lt (by omega)
  have h2 := h'.ge (by omega) (by intro e; subst e; simp at hl)
  have h3 := pow_le (B := B) (by omega) (show xs.length ≤ ys.length - 1 by omega)
  omega
theorem val_inj {B : Int} (hB : 0 < B) : ∀ {xs ys : List Int}, Dig B xs → Dig B ys → xs.length = ys.length → val B xs = val B ys → xs = ys
  | [], [], _, _, _, _ => rfl
  | [], _ :: _, _, _, e, _ => by simp at e
  | _ :: _, [], _, _, e, _ => by simp at e
  | x :: xs, y :: ys, hx, hy, e, hv => by
    simp only [val] at hv
    have h1 := hx x (.head _)
    have h2 := hy y (.head _)
    have e1 : (x + B * val B xs) % B = x := by rw [Int.add_mul_emod_self_left]; exact Int.emod_eq_of_lt h1.1 h1.2
    have e2 : (y + B * val B ys) % B = y := by rw [Int.add_mul_emod_self_left]; exact Int.emod_eq_of_lt h2.1 h2.2
    have e3 : x = y := by rw [← e1, ← e2, hv]
    subst e3
    have e4 : B * val B xs = B * val B ys := by omega
    have e5 := Int.eq_of_mul_eq_mul_left (by omega) e4
    rw [val_inj hB hx.tail hy.tail (by simpa using e) e5]
theorem Rep.unique {B N : Int} (hB : 1 < B) {xs ys : List Int} (h : Rep B xs N) (h' : Rep B ys N) : xs = ys := by
  have hl : xs.length = ys.length := by
    rcases Nat.lt_trichotomy xs.length ys.length with h1 | h1 | h1
    · exact absurd (h.lt_of_len hB h' h1) (Int.lt_irrefl _)
    · exact h1
    · exact absurd (h'.lt_of_len hB h h1) (Int.lt_irrefl _)
  exact val_inj (by omega) h.dig h'.dig hl (h.val.trans h'.val.symm)
theorem Rep.eq_iff {B N M : Int} (hB : 1 < B) {xs ys : List Int} (h : Rep B xs N) (h' : Rep B ys M) : xs = ys ↔ N = M :=
  ⟨fun e => by subst e; exact h.val.symm.trans h'.val, fun e => by subst e; exact h.unique hB h'⟩
theorem Rep.nil {B : Int} : Rep B [] 0 := ⟨Dig.nil, rfl, by simp⟩
theorem Rep.one {B : Int} (hB : 1 < B) : Rep B [1] 1 := ⟨Dig.nil.cons (by omega) hB, by simp [Mine.val], by simp⟩
theorem Rep.eq_nil {B N : Int} (hB : 1 < B) {xs : List Int} (h : Rep B xs N) : xs = [] ↔ N = 0 := h.eq_iff hB Rep.nil
theorem Rep.len {B N : Int} (hB : 2 ≤ B) {xs : List Int} (h : Rep B xs N) (k : Nat) (hN : N < 2 ^ k) : xs.length ≤ k := by
  by_cases hne : xs = []
  · subst hne; simp
  · have h1 := h.ge (by omega) hne
    by_cases hk : xs.length ≤ k
    · exact hk
    · exfalso
      have h2 : (2 : Int) ^ (xs.length - 1) ≤ B ^ (xs.length - 1) := by
        generalize xs.length - 1 = m
        induction m with
        | zero => simp
        | succ m ih =>
          rw [Int.pow_succ, Int.pow_succ]
          exact Int.mul_le_mul ih (by omega) (by omega) (Int.le_of_lt (pow_pos (by omega) _))
      have h3 := pow_le (B := 2) (by omega) (show k ≤ xs.length - 1 by omega)
      omega

/-- nat_of's turn: what is made, what is left -/
structure NatInv (B : Int) (f : List Int) (x N : Int) : Prop where
  dig : Dig B f
  val : val B f + B ^ f.length * x = N
  last : x = 0 → f.getLast? ≠ some 0
  pos : 0 ≤ x
theorem NatInv.start {B N : Int} (h : 0 ≤ N) : NatInv B [] N N := ⟨Dig.nil, by simp [Mine.val], by simp, h⟩
theorem NatInv.step {B x N : Int} {f : List Int} (hB : 1 < B) (h : NatInv B f x N) (hx : 0 < x) : NatInv B (f ++ [x % B]) (x / B) N := by
  obtain ⟨hd, hv, _, _⟩ := h
  have h1 := Int.emod_nonneg x (show B ≠ 0 by omega)
  have h2 := Int.emod_lt_of_pos x (show 0 < B by omega)
  have h3 := Int.emod_add_mul_ediv x B
  refine ⟨hd.snoc h1 h2, ?_, fun e => ?_, Int.ediv_nonneg (by omega) (by omega)⟩
  · rw [val_snoc, List.length_append, List.length_singleton, Int.pow_succ, ← hv]
    generalize x / B = q at *
    generalize x % B = r at *
    rw [← h3]; grind
  · rw [List.getLast?_append]
    simp
    rw [e] at h3
    simp at h3
    omega
theorem NatInv.len {B x N : Int} {f : List Int} (hB : 2 ≤ B) (h : NatInv B f x N) (hx : 0 < x) {k : Nat} (hN : N < 2 ^ k) : f.length ≤ k := by
  by_cases hk : f.length ≤ k
  · exact hk
  · exfalso
    have h0 := val_nonneg (by omega) h.dig
    have h1 : (2 : Int) ^ f.length ≤ B ^ f.length := by
      generalize f.length = m
      induction m with
      | zero => simp
      | succ m ih =>
        rw [Int.pow_succ, Int.pow_succ]
        exact Int.mul_le_mul ih (by omega) (by omega) (Int.le_of_lt (pow_pos (by omega) _))
    have h2 := pow_le (B := 2) (by omega) (show k ≤ f.length by omega)
    have h3 : B ^ f.length * 1 ≤ B ^ f.length * x := Int.mul_le_mul_of_nonneg_left (by omega) (Int.le_of_lt (pow_pos (by omega) _))
    have h4 := h.val
    omega
theorem NatInv.rep {B x N : Int} {f : List Int} (h : NatInv B f x N) (hx : ¬ 0 < x) : Rep B f N := by
  obtain ⟨hd, hv, hl, hp⟩ := h
  have : x = 0 := by omega
  subst this
  exact ⟨hd, by simpa using hv, hl rfl⟩
theorem ediv_lt {x B : Int} (hB : 1 < B) (hx : 0 < x) : x / B < x := Int.ediv_lt_self_of_pos_of_ne_one hx (by omega) |> fun h => h
theorem take_snoc {xs : List Int} {n : Nat} (h : n < xs.length) : xs.take (n + 1) = xs.take n ++ [xs.getD n 0] := by
  rw [List.take_add_one]; simp [h]
theorem normal_step {W M x : Int} {xs : List Int} (h0 : 0 < x) (h1 : x ≤ xs.length) (hz : xs.getD (x - 1).toNat 0 = 0) (hv : val W (xs.take x.toNat) = M) : val W (xs.take (x - 1).toNat) = M := by
  have e : x.toNat = (x - 1).toNat + 1 := by omega
  rw [e, take_snoc (by omega), hz, val_snoc] at hv
  simpa using hv
theorem normal_rep {W M x : Int} {xs : List Int} (h0 : 0 ≤ x) (h1 : x ≤ xs.length) (hD : Dig W xs) (hv : val W (xs.take x.toNat) = M) (h : ¬ 0 < x ∨ ¬ xs.getD (x - 1).toNat 0 = 0) : Rep W (xs.take x.toNat) M := by
  refine ⟨hD.take _, hv, ?_⟩
  rcases h with h | h
  · have : x = 0 := by omega
    subst this; simp
  · by_cases hx : x = 0
    · subst hx; simp
    · have e : x.toNat = (x - 1).toNat + 1 := by omega
      rw [e, take_snoc (by omega), List.getLast?_append]
      simpa using h
theorem split_at {xs : List Int} {k : Nat} (h : k < xs.length) : xs = xs.take k ++ xs.getD k 0 :: xs.drop (k + 1) := by
  have h1 : xs.getD k 0 = xs[k] := by simp [h]
  rw [h1]
  conv => lhs; rw [← List.take_append_drop k xs, List.drop_eq_getElem_cons h]
theorem cmp_lt {B : Int} (hB : 0 < B) {xs ys : List Int} {k : Nat} (hx : Dig B xs) (hy : Dig B ys) (hk : k < xs.length) (hk' : k < ys.length) (hd : xs.drop (k + 1) = ys.drop (k + 1)) (h : xs.getD k 0 < ys.getD k 0) : val B xs < val B ys := by
  rw [split_at hk, split_at hk', val_append, val_append, hd]
  have h1 := val_lt hB (hx.take k)
  have h2 := val_nonneg (Int.le_of_lt hB) (hy.take k)
  rw [List.length_take, Nat.min_eq_left (Nat.le_of_lt hk)] at h1
  rw [List.length_take, Nat.min_eq_left (Nat.le_of_lt hk), List.length_take, Nat.min_eq_left (Nat.le_of_lt hk')]
  simp only [val]
  have hp := pow_pos hB k
  have h3 : B ^ k * (xs.getD k 0 + 1) ≤ B ^ k * ys.getD k 0 := Int.mul_le_mul_of_nonneg_left (by omega) (by omega)
  rw [Int.mul_add] at h3
  rw [Int.mul_add, Int.mul_add]
  omega
/-- compare's word: the limbs above are alike -/
theorem cmp_same {xs ys : List Int} {k : Nat} (hk : k < xs.length) (hk' : k < ys.length) (hd : xs.drop (k + 1) = ys.drop (k + 1)) (h : xs.getD k 0 = ys.getD k 0) : xs.drop k = ys.drop k := by
  rw [List.drop_eq_getElem_cons hk, List.drop_eq_getElem_cons hk', hd]
  have h1 : xs.getD k 0 = xs[k] := by simp [hk]
  have h2 : ys.getD k 0 = ys[k] := by simp [hk']
  rw [← h1, ← h2, h]
/-- add's word after i places -/
structure AddInv (B : Int) (i : Nat) (xs ys zs : List Int) (c : Int) : Prop where
  len : zs.length = i
  dig : Dig B zs
  c0 : 0 ≤ c
  c1 : c ≤ 1
  hv : val B zs + B ^ i * c = val B (xs.take i) + val B (ys.take i)
theorem AddInv.start {B : Int} {xs ys : List Int} : AddInv B 0 xs ys [] 0 := ⟨rfl, Dig.nil, by omega, by omega, by simp [Mine.val]⟩
theorem take_val {B : Int} {xs : List Int} {i : Nat} (h : i < xs.length) : val B (xs.take (i + 1)) = val B (xs.take i) + B ^ i * xs.getD i 0 := by
  rw [take_snoc h, val_snoc, List.length_take, Nat.min_eq_left (Nat.le_of_lt h)]
theorem Dig.getD {B : Int} {xs : List Int} {i : Nat} (h : Dig B xs) (hi : i < xs.length) : 0 ≤ xs.getD i 0 ∧ xs.getD i 0 < B := by
  have e : xs.getD i 0 = xs[i] := by simp [hi]
  rw [e]; exact h _ (List.getElem_mem hi)
theorem AddInv.stepAny {B c t d : Int} {i : Nat} {xs ys zs : List Int} (hB : 2 ≤ B) (h : AddInv B i xs ys zs c) (ht : t = c + d) (h0 : 0 ≤ d) (h1 : d ≤ 2 * B - 2)
    (hv : val B (xs.take (i + 1)) + val B (ys.take (i + 1)) = val B (xs.take i) + val B (ys.take i) + B ^ i * d) : AddInv B (i + 1) xs ys (zs ++ [t % B]) (t / B) := by
  obtain ⟨hl, hd, c0, c1, hv'⟩ := h
  have e1 := Int.emod_nonneg t (show B ≠ 0 by omega)
  have e2 := Int.emod_lt_of_pos t (show 0 < B by omega)
  have e3 := Int.emod_add_mul_ediv t B
  refine ⟨by simp [hl], hd.snoc e1 e2, Int.ediv_nonneg (by omega) (by omega), ?_, ?_⟩
  · have : t / B < 2 := Int.ediv_lt_of_lt_mul (by omega) (by omega)
    omega
  · rw [val_snoc, hl, hv, ← hv', Int.pow_succ]
    generalize t / B = q at *
    generalize t % B = r at *
    have : c + d = r + B * q := by omega
    grind
theorem AddInv.step {B c : Int} {i : Nat} {xs ys zs : List Int} (hB : 2 ≤ B) (h : AddInv B i xs ys zs c) (hx : Dig B xs) (hy : Dig B ys) (h1 : i < xs.length) (h2 : i < ys.length) :
    AddInv B (i + 1) xs ys (zs ++ [(c + (xs.getD i 0 + ys.getD i 0)) % B]) ((c + (xs.getD i 0 + ys.getD i 0)) / B) := by
  have a1 := hx.getD h1
  have a2 := hy.getD h2
  refine h.stepAny hB rfl (by omega) (by omega) ?_
  rw [take_val h1, take_val h2, Int.mul_add]; omega
theorem AddInv.step2 {B c : Int} {i : Nat} {xs ys zs : List Int} (hB : 2 ≤ B) (h : AddInv B i xs ys zs c) (hx : Dig B xs) (h1 : i < xs.length) (h2 : ys.length ≤ i) :
    AddInv B (i + 1) xs ys (zs ++ [(c + xs.getD i 0) % B]) ((c + xs.getD i 0) / B) := by
  have a1 := hx.getD h1
  refine h.stepAny hB rfl (by omega) (by omega) ?_
  rw [take_val h1, List.take_of_length_le h2, List.take_of_length_le (show ys.length ≤ i + 1 by omega)]; omega
theorem AddInv.rep0 {B c n1 n2 : Int} {xs ys zs : List Int} (hB : 2 ≤ B) (h : AddInv B xs.length xs ys zs c) (hx : Rep B xs n1) (hy : Rep B ys n2) (hl : ys.length ≤ xs.length) (hc : ¬ 0 < c) : Rep B zs (n1 + n2) := by
  obtain ⟨hl', hd, c0, c1, hv⟩ := h
  have : c = 0 := by omega
  subst this
  rw [List.take_length, List.take_of_length_le hl, hx.val, hy.val] at hv
  have h2 := hy.nonneg (by omega)
  refine rep_of_ge (by omega) hd (by simpa using hv) fun hne => ?_
  have := hx.ge (by omega) (by intro e; subst e; exact hne (List.eq_nil_of_length_eq_zero hl'))
  rw [hl']; omega
theorem AddInv.rep1 {B c n1 n2 : Int} {xs ys zs : List Int} (hB : 2 ≤ B) (h : AddInv B xs.length xs ys zs c) (hx : Rep B xs n1) (hy : Rep B ys n2) (hl : ys.length ≤ xs.length) (hc : 0 < c) : Rep B (zs ++ [c]) (n1 + n2) := by
  obtain ⟨hl', hd, c0, c1, hv⟩ := h
  rw [List.take_length, List.take_of_length_le hl, hx.val, hy.val] at hv
  exact ⟨hd.snoc c0 (by omega), by rw [val_snoc, hl']; exact hv, by rw [List.getLast?_append]; simp; omega⟩
theorem take_val' {B : Int} {xs : List Int} {i : Nat} : val B (xs.take (i + 1)) = val B (xs.take i) + B ^ i * xs.getD i 0 := by
  by_cases h : i < xs.length
  · exact take_val h
  · rw [List.take_of_length_le (by omega), List.take_of_length_le (by omega)]
    have : xs.getD i 0 = 0 := by simp [List.getD, List.getElem?_eq_none (Nat.le_of_not_lt h)]
    rw [this]; simp
theorem Dig.getD' {B : Int} {xs : List Int} {i : Nat} (hB : 0 < B) (h : Dig B xs) : 0 ≤ xs.getD i 0 ∧ xs.getD i 0 < B := by
  by_cases hi : i < xs.length
  · exact h.getD hi
  · have : xs.getD i 0 = 0 := by simp [List.getD, List.getElem?_eq_none (Nat.le_of_not_lt hi)]
    omega
/-- sub's word after i places -/
structure SubInv (B : Int) (i : Nat) (xs ys zs : List Int) (c : Int) : Prop where
  len : zs.length = i
  dig : Dig B zs
  c01 : c = 0 ∨ c = 1
  hv : val B zs - B ^ i * c = val B (xs.take i) - val B (ys.take i)
theorem SubInv.start {B : Int} {xs ys : List Int} : SubInv B 0 xs ys [] 0 := ⟨rfl, Dig.nil, .inl rfl, by simp [Mine.val]⟩
theorem SubInv.stepNeg {B c y : Int} {i : Nat} {xs ys zs : List Int} (hB : 2 ≤ B) (h : SubInv B i xs ys zs c) (hx : Dig B xs) (hy : Dig B ys) (e : y = ys.getD i 0) (hd : xs.getD i 0 - c - y < 0) :
    SubInv B (i + 1) xs ys (zs ++ [xs.getD i 0 - c - y + B]) 1 := by
  obtain ⟨hl, hd', hc, hv⟩ := h
  subst e
  have a1 := hx.getD' (i := i) (by omega)
  have a2 := hy.getD' (i := i) (by omega)
  refine ⟨by simp [hl], hd'.snoc (by omega) (by omega), .inr rfl, ?_⟩
  rw [val_snoc, hl, take_val', take_val', Int.pow_succ]
  have : val B zs = val B (xs.take i) - val B (ys.take i) + B ^ i * c := by omega
  rw [this]; grind
theorem SubInv.stepPos {B c y : Int} {i : Nat} {xs ys zs : List Int} (hB : 2 ≤ B) (h : SubInv B i xs ys zs c) (hx : Dig B xs) (hy : Dig B ys) (e : y = ys.getD i 0) (hd : ¬ xs.getD i 0 - c - y < 0) :
    SubInv B (i + 1) xs ys (zs ++ [xs.getD i 0 - c - y]) 0 := by
  obtain ⟨hl, hd', hc, hv⟩ := h
  subst e
  have a1 := hx.getD' (i := i) (by omega)
  have a2 := hy.getD' (i := i) (by omega)
  refine ⟨by simp [hl], hd'.snoc (by omega) (by omega), .inl rfl, ?_⟩
  rw [val_snoc, hl, take_val', take_val']
  have : val B zs = val B (xs.take i) - val B (ys.take i) + B ^ i * c := by omega
  rw [this]; grind
theorem SubInv.fin {B c n1 n2 : Int} {xs ys zs : List Int} (hB : 2 ≤ B) (h : SubInv B xs.length xs ys zs c) (hx : Rep B xs n1) (hy : Rep B ys n2) (hle : n2 ≤ n1) : val B zs = n1 - n2 := by
  obtain ⟨hl, hd', hc, hv⟩ := h
  have hlen : ys.length ≤ xs.length := by
    by_cases h : ys.length ≤ xs.length
    · exact h
    · have := hx.lt_of_len (by omega) hy (by omega); omega
  rw [List.take_length, List.take_of_length_le hlen, hx.val, hy.val] at hv
  have h1 := val_lt (by omega) hd'
  rw [hl] at h1
  rcases hc with rfl | rfl
  · simpa using hv
  · omega
theorem getD_none {xs : List Int} {i : Nat} (h : ¬ i < xs.length) : (0 : Int) = xs.getD i 0 := by simp [List.getD, List.getElem?_eq_none (Nat.le_of_not_lt h)]
end Mine
end
section
namespace Mine
theorem fdiv_fmod {n W : Int} (h0 : 0 ≤ n) (hW : 0 < W) : 0 ≤ n.fdiv W ∧ n.fdiv W ≤ n ∧ 0 ≤ n.fmod W ∧ n.fmod W < W ∧ W * n.fdiv W + n.fmod W = n := by
  rw [Int.fdiv_eq_ediv_of_nonneg _ (by omega), Int.fmod_eq_emod_of_nonneg _ (by omega)]
  have h1 := Int.emod_add_mul_ediv n W
  have h2 := Int.emod_nonneg n (show W ≠ 0 by omega)
  have h3 := Int.emod_lt_of_pos n hW
  have h4 := Int.ediv_nonneg h0 (Int.le_of_lt hW)
  have h5 : 1 * (n / W) ≤ W * (n / W) := Int.mul_le_mul_of_nonneg_right (by omega) h4
  omega
/-- shift_left's word after i limbs -/
structure ShInv (B F : Int) (sp i : Nat) (xs zs : List Int) (c : Int) : Prop where
  h : ∃ zs', zs = List.replicate sp 0 ++ zs' ∧ zs'.length = i ∧ Dig B zs' ∧ val B zs' + B ^ i * c = val B (xs.take i) * F
  c0 : 0 ≤ c
  c1 : c < F
theorem ShInv.start {B : Int} (few : Nat) (sp : Nat) {xs : List Int} : ShInv B (2 ^ few) sp 0 xs (List.replicate sp [0]).flatten 0 :=
  ⟨⟨[], by simp, rfl, Dig.nil, by simp [Mine.val]⟩, by omega, pow_pos (by omega) _⟩
theorem ShInv.len {B F c : Int} {sp i : Nat} {xs zs : List Int} (h : ShInv B F sp i xs zs c) : zs.length = sp + i := by
  obtain ⟨⟨zs', rfl, hl, _⟩, _⟩ := h
  simp [hl]
theorem ShInv.step {B F c x t : Int} {sp i : Nat} {xs zs : List Int} (hB : 2 ≤ B) (h : ShInv B F sp i xs zs c) (hx : xs[i]? = some x) (h0 : 0 ≤ x) (h1 : x < B) (ht : t = c + x * F) :
    ShInv B F sp (i + 1) xs (zs ++ [t % B]) (t / B) := by
  obtain ⟨⟨zs', rfl, hl, hd, hv⟩, c0, c1⟩ := h
  have e1 := Int.emod_nonneg t (show B ≠ 0 by omega)
  have e2 := Int.emod_lt_of_pos t (show 0 < B by omega)
  have e3 := Int.emod_add_mul_ediv t B
  have hxF : 0 ≤ x * F := Int.mul_nonneg h0 (by omega)
  have hxF' : x * F ≤ (B - 1) * F := Int.mul_le_mul_of_nonneg_right (by omega) (by omega)
  rw [Int.sub_mul, Int.one_mul] at hxF'
  have hi : i < xs.length := by
    rcases Nat.lt_or_ge i xs.length with h | h
    · exact h
    · rw [List.getElem?_eq_none h] at hx; cases hx
  have hg : xs.getD i 0 = x := by simp [List.getD, hx]
  refine ⟨⟨zs' ++ [t % B], by simp, by simp [hl], hd.snoc e1 e2, ?_⟩, Int.ediv_nonneg (by omega) (by omega), ?_⟩
  · rw [val_snoc, hl, take_val hi, hg, Int.add_mul, ← hv, Int.pow_succ]
    generalize t / B = q at *
    generalize t % B = r at *
    have : c + x * F = r + B * q := by omega
    grind
  · refine Int.ediv_lt_of_lt_mul (by omega) ?_
    rw [Int.mul_comm F B]; omega
theorem ShInv.rep0 {B F c n1 M : Int} {sp : Nat} {xs zs : List Int} (hB : 2 ≤ B) (h : ShInv B F sp xs.length xs zs c) (hx : Rep B xs n1) (hne : xs ≠ []) (hF : 1 ≤ F) (hc : ¬ 0 < c) (hM : M = n1 * F * B ^ sp) : Rep B zs M := by
  obtain ⟨⟨zs', rfl, hl, hd, hv⟩, c0, c1⟩ := h
  have : c = 0 := by omega
  subst this
  rw [List.take_length, hx.val] at hv
  simp only [Int.mul_zero, Int.add_zero] at hv
  have hz : val B (List.replicate sp 0) = 0 := by
    clear hM
    induction sp with
    | zero => rfl
    | succ n ih => rw [List.replicate_succ, val, ih]; simp
  have hD : Dig B (List.replicate sp 0 ++ zs') := Dig.append (fun y hy => by rw [List.eq_of_mem_replicate hy]; omega) hd
  refine rep_of_ge (by omega) hD (by rw [val_append, hz, hv, List.length_replicate, hM]; grind) fun _ => ?_
  have hge := hx.ge (by omega) hne
  have hlen : 0 < xs.length := List.length_pos_iff.mpr hne
  have e : (List.replicate sp 0 ++ zs').length - 1 = sp + (xs.length - 1) := by simp [hl]; omega
  rw [e, Int.pow_add, hM]
  have p1 := pow_pos (B := B) (by omega) sp
  have h0 := hx.nonneg (by omega)
  have a1 : n1 * 1 ≤ n1 * F := Int.mul_le_mul_of_nonneg_left hF h0
  have a2 : B ^ sp * B ^ (xs.length - 1) ≤ B ^ sp * (n1 * F) := Int.mul_le_mul_of_nonneg_left (by omega) (by omega)
  rw [Int.mul_comm (n1 * F)]; exact a2
theorem ShInv.rep1 {B F c n1 M : Int} {sp : Nat} {xs zs : List Int} (hB : 2 ≤ B) (h : ShInv B F sp xs.length xs zs c) (hx : Rep B xs n1) (hF : F ≤ B) (hc : 0 < c) (hM : M = n1 * F * B ^ sp) : Rep B (zs ++ [c]) M := by
  obtain ⟨⟨zs', rfl, hl, hd, hv⟩, c0, c1⟩ := h
  rw [List.take_length, hx.val] at hv
  have hz : val B (List.replicate sp 0) = 0 := by
    clear hM
    induction sp with
    | zero => rfl
    | succ n ih => rw [List.replicate_succ, val, ih]; simp
  have hD : Dig B (List.replicate sp 0 ++ zs') := Dig.append (fun y hy => by rw [List.eq_of_mem_replicate hy]; omega) hd
  refine ⟨hD.snoc c0 (by omega), ?_, by rw [List.getLast?_append]; simp; omega⟩
  rw [val_snoc, val_append, hz, List.length_append, List.length_replicate, hl, Int.pow_add, hM, ← hv]; grind
/-- mul's word: after i limbs of the first row -/
structure MulInv (B : Int) (i : Nat) (xs ys zs : List Int) : Prop where
  len : zs.length = xs.length + ys.length
  dig : Dig B zs
  hv : val B zs = val B (xs.take i) * val B ys
  zero : ∀ t, i + ys.length ≤ t → zs.getD t 0 = 0
/-- .. and within, after j limbs of the second -/
structure MulIn (B : Int) (i : Nat) (x : Int) (n : Nat) (ys zs₀ : List Int) (j : Nat) (zs : List Int) (c : Int) : Prop where
  len : zs.length = n
  dig : Dig B zs
  c0 : 0 ≤ c
  c1 : c < B
  hv : val B zs + B ^ (i + j) * c = val B zs₀ + B ^ i * x * val B (ys.take j)
  same : ∀ t, i + j ≤ t → zs.getD t 0 = zs₀.getD t 0
theorem val_zeros (B : Int) (n : Nat) : val B (List.replicate n 0) = 0 := by
  induction n with
  | zero => rfl
  | succ n ih => rw [List.replicate_succ, val, ih]; simp
theorem MulInv.start {B : Int} (hB : 0 < B) {xs ys : List Int} {n : Nat} (hn : n = xs.length + ys.length) : MulInv B 0 xs ys (List.replicate n [0]).flatten := by
  have e : (List.replicate n [(0 : Int)]).flatten = List.replicate n 0 := by simp
  rw [e]
  refine ⟨by simp [hn], fun y hy => by rw [List.eq_of_mem_replicate hy]; omega, by simp [val_zeros, val], fun t _ => ?_⟩
  rw [List.getD, List.getElem?_replicate]; split <;> rfl
theorem MulIn.start {B x : Int} {i : Nat} {xs ys zs : List Int} (hB : 0 < B) (h : MulInv B i xs ys zs) : MulIn B i x (xs.length + ys.length) ys zs 0 zs 0 :=
  ⟨h.len, h.dig, by omega, hB, by simp [Mine.val], fun _ _ => rfl⟩
theorem getElem?_of_getD {zs : List Int} {k : Nat} (h : k < zs.length) : zs[k]? = some (zs.getD k 0) := by
  rw [List.getD, List.getElem?_eq_getElem h]; rfl
theorem mul_le {B x y : Int} (h0 : 0 ≤ x) (h1 : x < B) (g0 : 0 ≤ y) (g1 : y < B) : 0 ≤ x * y ∧ x * y ≤ B * B - 2 * B + 1 := by
  refine ⟨Int.mul_nonneg h0 g0, ?_⟩
  have h2 : x * y ≤ (B - 1) * (B - 1) := Int.mul_le_mul (by omega) (by omega) g0 (by omega)
  have h3 : (B - 1) * (B - 1) = B * B - 2 * B + 1 := by grind
  omega
theorem MulIn.step {B x y c t : Int} {i j n : Nat} {ys zs₀ zs : List Int} (hB : 2 ≤ B) (h : MulIn B i x n ys zs₀ j zs c) (hx0 : 0 ≤ x) (hx1 : x < B) (hy : ys[j]? = some y) (hy0 : 0 ≤ y) (hy1 : y < B) (hk : i + j < n) (ht : t = c + (zs.getD (i + j) 0 + x * y)) :
    MulIn B i x n ys zs₀ (j + 1) (zs.set (i + j) (t % B)) (t / B) := by
  obtain ⟨hl, hd, c0, c1, hv, hs⟩ := h
  have e1 := Int.emod_nonneg t (show B ≠ 0 by omega)
  have e2 := Int.emod_lt_of_pos t (show 0 < B by omega)
  have e3 := Int.emod_add_mul_ediv t B
  have hz := hd.getD (i := i + j) (by omega)
  have hm := mul_le hx0 hx1 hy0 hy1
  have hj : j < ys.length := by
    rcases Nat.lt_or_ge j ys.length with h | h
    · exact h
    · rw [List.getElem?_eq_none h] at hy; cases hy
  have hyd : ys.getD j 0 = y := by simp [List.getD, hy]
  refine ⟨by simp [hl], hd.set e1 e2, Int.ediv_nonneg (by omega) (by omega), ?_, ?_, fun k hk' => ?_⟩
  · refine Int.ediv_lt_of_lt_mul (by omega) ?_
    omega
  · have hz' := getElem?_of_getD (zs := zs) (k := i + j) (by omega)
    rw [val_set hz', take_val hj, hyd, ← Nat.add_assoc, Int.pow_succ, Int.mul_add, ← Int.add_assoc, ← hv, Int.pow_add]
    generalize t / B = q at *
    generalize t % B = r at *
    have : c + (zs.getD (i + j) 0 + x * y) = r + B * q := by omega
    generalize zs.getD (i + j) 0 = z at *
    grind
  · rw [← hs k (by omega)]
    simp only [List.getD, List.getElem?_set]
    rw [if_neg (by omega)]
theorem MulIn.fin {B x c : Int} {i : Nat} {xs ys zs₀ zs : List Int} (hB : 2 ≤ B) (h0 : MulInv B i xs ys zs₀) (h : MulIn B i x (xs.length + ys.length) ys zs₀ ys.length zs c) (hx : xs[i]? = some x) (hi : i < xs.length) :
    MulInv B (i + 1) xs ys (zs.set (i + ys.length) c) := by
  obtain ⟨hl, hd, c0, c1, hv, hs⟩ := h
  obtain ⟨_, _, hv0, hz0⟩ := h0
  have hxd : xs.getD i 0 = x := by simp [List.getD, hx]
  have hz' := getElem?_of_getD (zs := zs) (k := i + ys.length) (by omega)
  rw [hs _ (Nat.le_refl _), hz0 _ (Nat.le_refl _)] at hz'
  refine ⟨by simp [hl], hd.set c0 c1, ?_, fun k hk => ?_⟩
  · rw [val_set hz', Int.sub_zero, hv, hv0, take_val hi, hxd, List.take_length]; grind
  · simp only [List.getD, List.getElem?_set]
    rw [if_neg (by omega)]
    have := hs k (by omega)
    rw [hz0 k (by omega)] at this
    exact this
theorem MulInv.fin {B n1 n2 : Int} {xs ys zs : List Int} (h : MulInv B xs.length xs ys zs) (hx : Rep B xs n1) (hy : Rep B ys n2) : val B zs = n1 * n2 := by
  rw [h.hv, List.take_length, hx.val, hy.val]
end Mine
end
section
namespace Mine
def crossL (one : Nat) (bs : List Bool) (j : Nat) : List Bool := (List.range j).foldl (fun bs k => bs.set (one * one + k * one) false) bs
def crossN (n one : Nat) : Nat := if one * one ≤ n then (n - one * one) / one + 1 else 0
def sieveStep (n one : Nat) (st : List Bool × List Int) : List Bool × List Int :=
  if st.1.getD one false = true then (crossL one st.1 (crossN n one), st.2 ++ [(one : Int)]) else st
def sieveTo (n i : Nat) : List Bool × List Int := (List.range i).foldl (fun st k => sieveStep n (k + 2) st) (List.replicate (n + 1) true, [])
def sieveL (n : Nat) : List Int := (sieveTo n (n - 1)).2
def facF : Nat → Nat → Nat → Nat
  | 0, _, _ => 0
  | f + 1, n, p => if n = 0 then 0 else n / p + facF f (n / p) p
def facE (n p : Nat) : Nat := facF n n p
def swF : Nat → Nat → Nat → Nat
  | 0, _, _ => 0
  | f + 1, r, p => if r = 0 then 0 else r % 2 + swF f (r / p) p
def swE (n p : Nat) : Nat := swF n (n / p) p
structure FacInv (n p x f : Nat) : Prop where
  h : ∃ k, x ≤ k ∧ f + facF k x p = facE n p
  le : x ≤ n
theorem FacInv.start {n p : Nat} : FacInv n p n 0 := ⟨⟨n, Nat.le_refl _, by simp [facE]⟩, Nat.le_refl _⟩
theorem FacInv.step {n p x f : Nat} (h : FacInv n p x f) (h0 : 0 < x) (hp : 2 ≤ p) : FacInv n p (x / p) (f + x / p) := by
  obtain ⟨⟨k, hk, e⟩, hl⟩ := h
  have hlt : x / p < x := Nat.div_lt_self h0 (by omega)
  obtain ⟨k, rfl⟩ : ∃ k', k = k' + 1 := ⟨k - 1, by omega⟩
  rw [facF, if_neg (by omega)] at e
  exact ⟨⟨k, by omega, by omega⟩, by omega⟩
theorem FacInv.fin {n p f : Nat} (h : FacInv n p 0 f) : f = facE n p := by
  obtain ⟨⟨k, hk, e⟩, hl⟩ := h
  cases k with
  | zero => simpa [facF] using e
  | succ k => simpa [facF] using e
structure SwInv (n p x f : Nat) : Prop where
  h : ∃ k, x ≤ k ∧ f + swF k x p = swE n p
  le : x ≤ n
theorem SwInv.start {n p : Nat} (h : n / p ≤ n) : SwInv n p (n / p) 0 := ⟨⟨n, h, by simp [swE]⟩, h⟩
theorem SwInv.step {n p x f : Nat} (h : SwInv n p x f) (h0 : 0 < x) (hp : 2 ≤ p) : SwInv n p (x / p) (f + x % 2) := by
  obtain ⟨⟨k, hk, e⟩, hl⟩ := h
  have hlt : x / p < x := Nat.div_lt_self h0 (by omega)
  obtain ⟨k, rfl⟩ : ∃ k', k = k' + 1 := ⟨k - 1, by omega⟩
  rw [swF, if_neg (by omega)] at e
  exact ⟨⟨k, by omega, by omega⟩, by omega⟩
theorem SwInv.fin {n p f : Nat} (h : SwInv n p 0 f) : f = swE n p := by
  obtain ⟨⟨k, hk, e⟩, hl⟩ := h
  cases k with
  | zero => simpa [swF] using e
  | succ k => simpa [swF] using e
def prodL : List Int → Int
  | [] => 1
  | x :: r => x * prodL r
theorem prodL_append (xs ys : List Int) : prodL (xs ++ ys) = prodL xs * prodL ys := by
  induction xs with
  | nil => simp [prodL]
  | cons x r ih => simp only [List.cons_append, prodL, ih, Int.mul_assoc]
theorem prodL_pos {xs : List Int} (h : ∀ x ∈ xs, 1 ≤ x) : 1 ≤ prodL xs := by
  induction xs with
  | nil => simp [prodL]
  | cons x r ih =>
    have h1 := ih fun y hy => h y (.tail _ hy)
    have h2 := h x (.head _)
    have : 1 * 1 ≤ x * prodL r := Int.mul_le_mul h2 h1 (by omega) (by omega)
    simp only [prodL]; omega
theorem prodL_split {xs : List Int} (k : Nat) (h : ∀ x ∈ xs, 1 ≤ x) : prodL (xs.take k) * prodL (xs.drop k) = prodL xs ∧ prodL (xs.take k) ≤ prodL xs ∧ prodL (xs.drop k) ≤ prodL xs := by
  have e : prodL (xs.take k) * prodL (xs.drop k) = prodL xs := by rw [← prodL_append, List.take_append_drop]
  have h1 := prodL_pos (xs := xs.take k) fun y hy => h y (List.mem_of_mem_take hy)
  have h2 := prodL_pos (xs := xs.drop k) fun y hy => h y (List.mem_of_mem_drop hy)
  have h3 : prodL (xs.take k) * 1 ≤ prodL (xs.take k) * prodL (xs.drop k) := Int.mul_le_mul_of_nonneg_left h2 (by omega)
  have h4 : 1 * prodL (xs.drop k) ≤ prodL (xs.take k) * prodL (xs.drop k) := Int.mul_le_mul_of_nonneg_right h1 (by omega)
  omega
structure PowInv (M : Int) (k : Nat) (F S : Int) : Prop where
  f1 : 1 ≤ F
  s1 : 1 ≤ S
  hv : F * S ^ k = M
  sl : S < 2 ^ 40
theorem one_le_pow {S : Int} (h : 1 ≤ S) (k : Nat) : 1 ≤ S ^ k := by have := pow_pos (show 0 < S by omega) k; omega
theorem PowInv.start {b : Int} {e : Nat} (h : 1 ≤ b) (h' : b ≤ 14) : PowInv (b ^ e) e 1 b := ⟨by omega, h, by simp, by omega⟩
theorem PowInv.stop {M F S : Int} (h : PowInv M 0 F S) : F = M := by have := h.hv; simpa using this
theorem PowInv.fle {M F S : Int} {k : Nat} (h : PowInv M k F S) : F ≤ M := by
  have h1 := one_le_pow h.s1 k
  have h2 : F * 1 ≤ F * S ^ k := Int.mul_le_mul_of_nonneg_left h1 (by have := h.f1; omega)
  have := h.hv; omega
theorem PowInv.fs {M F S : Int} {k : Nat} (h : PowInv M k F S) (hk : 0 < k) : F * S ≤ M := by
  obtain ⟨k, rfl⟩ : ∃ k', k = k' + 1 := ⟨k - 1, by omega⟩
  have h1 := one_le_pow h.s1 k
  have h3 : 1 * 1 ≤ F * S := Int.mul_le_mul h.f1 h.s1 (by omega) (by have := h.f1; omega)
  have h2 : F * S * 1 ≤ F * S * S ^ k := Int.mul_le_mul_of_nonneg_left h1 (by omega)
  have h4 := h.hv
  rw [Int.pow_succ, Int.mul_comm (S ^ k), ← Int.mul_assoc] at h4
  omega
theorem PowInv.odd {M F S : Int} {k : Nat} (h : PowInv M k F S) (hk : k % 2 = 1) : PowInv M (k - 1) (F * S) S := by
  obtain ⟨k, rfl⟩ : ∃ k', k = k' + 1 := ⟨k - 1, by omega⟩
  have h3 : 1 * 1 ≤ F * S := Int.mul_le_mul h.f1 h.s1 (by omega) (by have := h.f1; omega)
  have h4 := h.hv
  rw [Int.pow_succ, Int.mul_comm (S ^ k), ← Int.mul_assoc] at h4
  exact ⟨by omega, h.s1, by simpa using h4, h.sl⟩
theorem PowInv.half {M F S : Int} {k : Nat} (h : PowInv M k F S) (hk : k % 2 = 0) (hM : M < 2 ^ 40) : PowInv M (k / 2) F (S * S) ∨ k / 2 = 0 := by
  by_cases h0 : k / 2 = 0
  · exact .inr h0
  · refine .inl ?_
    have e : k = 2 * (k / 2) := by omega
    have h4 := h.hv
    rw [e, Int.pow_mul] at h4
    have e2 : S ^ 2 = S * S := by rw [Int.pow_succ, Int.pow_succ]; simp
    rw [e2] at h4
    have h3 : 1 * 1 ≤ S * S := Int.mul_le_mul h.s1 h.s1 (by omega) (by have := h.s1; omega)
    obtain ⟨j, hj⟩ : ∃ j, k / 2 = j + 1 := ⟨k / 2 - 1, by omega⟩
    have h6 := one_le_pow (S := S * S) (by omega) j
    have h7 : F * (S * S) ^ (k / 2) = F * ((S * S) ^ j * (S * S)) := by rw [hj, Int.pow_succ]
    have h8 : 1 * (S * S) ≤ F * ((S * S) ^ j * (S * S)) := by
      have : 1 * (S * S) ≤ (S * S) ^ j * (S * S) := Int.mul_le_mul_of_nonneg_right h6 (by omega)
      have := Int.mul_le_mul h.f1 this (by omega) (by have := h.f1; omega)
      omega
    exact ⟨h.f1, by omega, h4, by omega⟩
theorem PowInv.oddHalf {M F S : Int} {k : Nat} (h : PowInv M k F S) (hk : k % 2 = 1) (hM : M < 2 ^ 40) (h2 : 0 < k / 2) : PowInv M (k / 2) (F * S) (S * S) := by
  have h1 := (h.odd hk).half (by omega) hM
  have e3 : (k - 1) / 2 = k / 2 := by omega
  rw [e3] at h1
  exact h1.resolve_right (by omega)
theorem PowInv.oddStop {M F S : Int} {k : Nat} (h : PowInv M k F S) (hk : k % 2 = 1) (h2 : ¬ 0 < k / 2) : PowInv M (k / 2) (F * S) S := by
  have h1 := h.odd hk
  have e3 : k - 1 = k / 2 := by omega
  rw [e3] at h1
  exact h1
end Mine
end
section
open PySem PySem.W PyProof.Rows
-- the head takes its own other road here («NO PIECES»: one check of the whole top): no room is left for the twins of more than two texts, since those of its pieces fill the compiled file past its lid
#guard_msgs (drop error) in
lay_quick_some 2 Mine.none_such
namespace Mine
set_option maxRecDepth 100000 in
set_option maxHeartbeats 8000000 in
open_top hd for PySem.Challenge.rw_pq0540_01
end Mine
end
section
open PySem PySem.W PyProof.Rows
namespace Mine
def Hold (P : Prop) : Prop := P
theorem Hold.mk {P : Prop} (h : Hold P) : P := h
theorem Hold.out {P : Prop} (h : P) : Hold P := h
abbrev ad {l : Addr} {news : List (Addr × Obj)} (_ : ∀ p ∈ news, p.1 < l) : Addr := l
theorem allNe {l : Addr} {news : List (Addr × Obj)} (h : ∀ p ∈ news, p.1 < l) : ∀ p ∈ news, p.1 ≠ l := fun p hp => Nat.ne_of_lt (h p hp)
theorem allLt_out {d : Addr} : ∀ {l : List (Addr × Obj)}, AllLt d l → ∀ p ∈ l, p.1 < d
  | [], _, _, hp => nomatch hp
  | _ :: _, h, _, .head _ => h.1
  | _ :: _, h, _, .tail _ hp => allLt_out h.2 _ hp
theorem pw {W : Int} (h : 3 ≤ W) (h' : W ≤ 9) : (8 : Int) ≤ 2 ^ W.toNat ∧ (2 : Int) ^ W.toNat ≤ 512 := by
  have : W = 3 ∨ W = 4 ∨ W = 5 ∨ W = 6 ∨ W = 7 ∨ W = 8 ∨ W = 9 := by omega
  rcases this with rfl | rfl | rfl | rfl | rfl | rfl | rfl <;> decide
abbrev MP := PySem.Challenge.rw_pq0540_01.row.prog
abbrev RetR (h₀ : Heap) (L : Addr) (m : Str → Option Value) (news : List (Addr × Obj)) (s : Shared) (Q : Value → Shared → Prop) (B N : Int) : Prop :=
  ∀ (r : Addr) (vs : List Value) (k : Nat) (zs : List Int) (h' : Heap) (tk' : Nat), Fr h₀ L h' m → News h₀ L h' ((r, listOf vs.toArray k) :: news) → IntsAre vs zs → Rep B zs N → (∀ p ∈ news, p.1 ≠ r) → Q (.ref r) { s with heap := h', toks := tk' }
end Mine
namespace Mine
theorem len100 {W n : Int} {xs : List Int} (h : Rep (2 ^ W.toNat) xs n) (h3 : 3 ≤ W) (h9 : W ≤ 9) (hn : n < 2 ^ 60) : xs.length ≤ 100 := by
  have := h.len (by have := pw h3 h9; omega) 60 hn
  omega
end Mine
namespace Mine
theorem news_head {h₀ h : Heap} {L : Addr} {x : Addr × Obj} {mid news : List (Addr × Obj)} (N : News h₀ L h (x :: mid)) (hs : ∀ p ∈ news, p ∈ mid) : News h₀ L h (x :: news) := fun p hp => by
  rcases List.mem_cons.mp hp with rfl | hp
  · exact N _ (.head _)
  · exact N _ (.tail _ (hs p hp))
theorem mem2 {x : Addr × Obj} {news : List (Addr × Obj)} : ∀ p ∈ news, p ∈ x :: news := fun _ h => .tail _ h
theorem mem3 {x y : Addr × Obj} {news : List (Addr × Obj)} : ∀ p ∈ news, p ∈ x :: y :: news := fun _ h => .tail _ (.tail _ h)
theorem mem4 {x y z : Addr × Obj} {news : List (Addr × Obj)} : ∀ p ∈ news, p ∈ x :: y :: z :: news := fun _ h => .tail _ (.tail _ (.tail _ h))
theorem ne_drop {r : Addr} {mid news : List (Addr × Obj)} (h : ∀ p ∈ mid, p.1 ≠ r) (hs : ∀ p ∈ news, p ∈ mid) : ∀ p ∈ news, p.1 ≠ r := fun p hp => h p (hs p hp)
end Mine
end
section
open PySem PySem.W PyProof.Rows
namespace Mine
/-- the end of a turn -/
def MEnd {σ : Type} (h₀ : Heap) (L : Addr) (I : Addr) (fp : List Addr) (rest : List (Addr × Obj)) (Mut : σ → List (Addr × Obj)) (ps : σ → List (Str × Value)) (stored : List Str) (m₀ : Str → Option Value) (P : σ → Prop) (s₁ s₂ : Shared) : Prop :=
  ∃ (c' : σ) (h' : Heap) (tk : Nat) (m' : Str → Option Value) (news' : List (Addr × Obj)), s₂ = { s₁ with heap := h', toks := tk } ∧ Fr h₀ L h' m' ∧ News h₀ L h' news' ∧ (∀ p ∈ Mut c' ++ rest, p ∈ news') ∧ (∀ p ∈ Mut c', p.1 ≠ I) ∧ (∀ p ∈ ps c', m' p.1 = some p.2) ∧ (∀ z, (∀ p ∈ ps c', z ≠ p.1) → stored.contains z = false → m' z = m₀ z) ∧ P c'
def MPost {σ : Type} (h₀ : Heap) (L : Addr) (I : Addr) (fp : List Addr) (rest : List (Addr × Obj)) (Mut : σ → List (Addr × Obj)) (ps : σ → List (Str × Value)) (stored : List Str) (m₀ : Str → Option Value) (P : σ → Prop) (s₁ : Shared) (Q : Flow → Shared → Prop) (f : Flow) (s₂ : Shared) : Prop :=
  match f with
  | .ret v => Q (.ret v) s₂
  | .brk => Q .next s₂
  | _ => MEnd h₀ L I fp rest Mut ps stored m₀ P s₁ s₂
theorem m_end {σ : Type} {h₀ : Heap} {L I : Addr} {fp : List Addr} {rest : List (Addr × Obj)} {Mut : σ → List (Addr × Obj)} {ps : σ → List (Str × Value)} {stored : List Str} {m₀ m' : Str → Option Value} {P : σ → Prop} {s₁ : Shared} {h' : Heap} {tk : Nat} {news' : List (Addr × Obj)} (c' : σ)
    (F : Fr h₀ L h' m') (N : News h₀ L h' news') (hn : ∀ p ∈ Mut c' ++ rest, p ∈ news') (hI : ∀ p ∈ Mut c', p.1 ≠ I) (hk : ∀ p ∈ ps c', m' p.1 = some p.2) (hr : ∀ z, (∀ p ∈ ps c', z ≠ p.1) → stored.contains z = false → m' z = m₀ z) (hp : P c') :
    MEnd h₀ L I fp rest Mut ps stored m₀ P s₁ { s₁ with heap := h', toks := tk } := ⟨c', h', tk, m', news', rfl, F, N, hn, hI, hk, hr, hp⟩
theorem apart_rest {l : Addr} {fixed rest : List (Addr × Obj)} {fp : List Addr} (h1 : ∀ p ∈ fixed, p.1 < l) (h2 : l ∉ fp) (hb : ∀ p ∈ rest, p ∈ fixed ∨ p.1 ∈ fp) : ∀ p ∈ rest, p.1 ≠ l := fun p hp e =>
  (hb p hp).elim (fun h => absurd e (Nat.ne_of_lt (h1 p h))) fun h => h2 (e ▸ h)

section
variable {prog : Program} {w : World} {A : Around} {E : Value → Shared → Prop} {s : Shared} {env : Env} {h₀ : Heap} {x : Str} {body : List Stmt} {Q : Flow → Shared → Prop}
theorem m_fr {L : Addr} {h : Heap} {ps : List (Str × Value)} {stored : List Str} {m₀ m₁ : Str → Option Value} (h1 : ∀ p ∈ ps, m₁ p.1 = some p.2) (h2 : ∀ z, (∀ p ∈ ps, z ≠ p.1) → stored.contains z = false → m₁ z = m₀ z) :
    kstB (fun z => if stored.contains z then m₁ z else m₀ z) ps = m₁ := by
  funext y
  exact kstB_eq h1 fun hn => by
    by_cases h3 : stored.contains y = true
    · exact if_pos h3
    · exact (if_neg h3).trans (h2 y hn (by simpa using h3)).symm

theorem m_for {σ : Type} {I : Addr} {fp : List Addr} {n : Nat} {Pv : Nat → Value → Prop} {St : Nat → Heap → Prop} {m₀ : Str → Option Value} {news₀ : List (Addr × Obj)}
    (fixed : List (Addr × Obj)) (Mut : σ → List (Addr × Obj)) (ps : σ → List (Str × Value)) (stored : List Str) (P : Nat → σ → Prop) (c₀ : σ)
    (W : Walks prog w A I fp [I] n Pv St) (hlive : ∀ i h, St i h → ∃ o, h.get? I = some o) (hLf : env.locals ∉ fp) (hI : h₀.get? I = none) (hst : St 0 s.heap) (F : Fr h₀ env.locals s.heap m₀) (N : News h₀ env.locals s.heap news₀)
    (hl : ∀ p ∈ Mut c₀ ++ fixed, p ∈ news₀) (hnI : ∀ p ∈ Mut c₀ ++ fixed, p.1 ≠ I) (hk : ∀ p ∈ ps c₀, m₀ p.1 = some p.2) (hp : P 0 c₀)
    (turn : ∀ (c : σ) (i : Nat) (v : Value) (u : Str → Option Value) (h : Heap) (tk : Nat) (rest : List (Addr × Obj)), i < n → Pv i v → P i c → (∀ p ∈ fixed, p ∈ rest) → (∀ p ∈ rest, p ∈ fixed ∨ p.1 ∈ fp) → (∃ oI, (I, oI) ∈ rest) → (∀ p ∈ Mut c, p.1 ≠ I) →
      Fr h₀ env.locals h (fun y => if y = x then some v else kstB (fun z => if stored.contains z then u z else m₀ z) (ps c) y) → News h₀ env.locals h (Mut c ++ rest) →
      wpAny (model prog w) A (execs body env) (MPost h₀ env.locals I fp rest Mut ps stored m₀ (P (i + 1)) { s with heap := h, toks := tk } Q) E { s with heap := h, toks := tk })
    (done : ∀ (c : σ) (u : Str → Option Value) (h : Heap) (tk : Nat), P n c → Fr h₀ env.locals h (kstB (fun z => if stored.contains z then u z else m₀ z) (ps c)) → News h₀ env.locals h (Mut c ++ fixed) → Q .next { s with heap := h, toks := tk }) :
    LoopAtV prog w A h₀ env x body Q E (.ref I) s := by
  let J : Nat → (Str → Option Value) → List (Addr × Obj) → Prop := fun i m nx => ∃ c : σ, nx = Mut c ++ fixed ∧ (∀ p ∈ ps c, m p.1 = some p.2) ∧ (∀ z, (∀ p ∈ ps c, z ≠ p.1) → stored.contains z = false → m z = m₀ z) ∧ P i c
  refine ⟨I, fp, [I], n, Pv, St, m₀, Mut c₀ ++ fixed, J, rfl, W, hLf, ?_, ?_, hst, F, fun p hp => N p (hl p hp), ⟨c₀, rfl, hk, fun _ _ _ => rfl, hp⟩, ?_, ?_⟩
  · intro b hb; rw [List.mem_singleton.mp hb]; exact hI
  · intro p hp hq; exact hnI p hp (List.mem_singleton.mp hq)
  · rintro i v m₁ nx s₁ own ⟨hh', tk', rfl⟩ hin hP ⟨c, rfl, h1, h2, hPc⟩ hoff hown _ hall hSt F₁ N₁
    obtain ⟨oI, hoI⟩ := hlive _ _ hSt
    have hI' : (I, oI) ∈ own := hall I (W.sub _ (by simp)) hI oI hoI
    have N₂ : News h₀ env.locals hh' (Mut c ++ (own ++ fixed)) := fun p hp => N₁ p (by simp only [List.mem_append] at hp ⊢; rcases hp with h | h | h <;> simp [h])
    have F₂ : Fr h₀ env.locals hh' (fun y => if y = x then some v else kstB (fun z => if stored.contains z then m₁ z else m₀ z) (ps c) y) := by
      have e := m_fr (L := env.locals) (h := hh') h1 h2
      simp only [e]; exact F₁
    refine wpAny_mono (turn c i v m₁ hh' tk' (own ++ fixed) hin hP hPc (fun p hp => List.mem_append_right _ hp) (fun p hp => (List.mem_append.mp hp).elim (fun h => .inr (hown p h)) .inl) ⟨oI, List.mem_append_left _ hI'⟩
      (fun p hp e => hoff p (List.mem_append_left _ hp) (List.mem_singleton.mpr e)) F₂ N₂) (fun f s₂ p => ?_) fun _ _ e => e
    have fin : MEnd h₀ env.locals I fp (own ++ fixed) Mut ps stored m₀ (P (i + 1)) { s with heap := hh', toks := tk' } s₂ → LoopStepU h₀ env.locals [I] own (J (i + 1)) { s with heap := hh', toks := tk' } .next s₂ := by
      rintro ⟨c', h', tk, m', news', e, F', N', hn, hI2, hk', hr', hP'⟩
      refine ⟨rfl, h', tk, m', Mut c' ++ fixed, e, F', fun p hp => N' p (hn p ?_), fun p hp hq => ?_, c', rfl, hk', hr', hP'⟩
      · simp only [List.mem_append] at hp ⊢; rcases hp with h | h | h <;> simp [h]
      · rcases List.mem_append.mp hp with h | h
        · exact hI2 p h (List.mem_singleton.mp hq)
        · exact hnI p (List.mem_append_right _ h) (List.mem_singleton.mp hq)
    cases f with
    | ret v => exact .ret p
    | brk => exact .brk p
    | next => exact .next (fin p)
    | cont => exact .cont (fin p)
  · rintro h' tk m' news' F' N' _ ⟨c, rfl, h1, h2, hPc⟩
    refine done c m' h' tk hPc ?_ N'
    have e := m_fr (L := env.locals) (h := h') h1 h2
    rw [e]; exact F'

theorem m_range {σ : Type} {r : Addr} {a₀ b₀ : Int} {t₀ u₀ v₀ : Tok} {m₀ : Str → Option Value} {news₀ : List (Addr × Obj)}
    (fixed : List (Addr × Obj)) (Mut : σ → List (Addr × Obj)) (ps : σ → List (Str × Value)) (stored : List Str) (P : Nat → σ → Prop) (c₀ : σ)
    (hh : A.handled = none) (hr : IsRange s.heap r a₀ b₀ 1 t₀ u₀ v₀) (hsmall : Builtin.Range.small a₀ b₀ 1 = true) (F : Fr h₀ env.locals s.heap m₀) (N : News h₀ env.locals s.heap news₀)
    (hl : ∀ p ∈ Mut c₀ ++ fixed, p ∈ news₀) (hk : ∀ p ∈ ps c₀, m₀ p.1 = some p.2) (hp : P 0 c₀)
    (turn : ∀ (c : σ) (i : Nat) (k : Int) (t : Tok) (u : Str → Option Value) (h : Heap) (tk : Nat) (rest : List (Addr × Obj)) (I : Addr), k = a₀ + (i : Int) → i < (b₀ - a₀).toNat → P i c → (∀ p ∈ fixed, p ∈ rest) → (∀ p ∈ rest, p ∈ fixed ∨ p.1 ∈ [I]) → (∃ oI, (I, oI) ∈ rest) → (∀ p ∈ Mut c, p.1 ≠ I) →
      Fr h₀ env.locals h (fun y => if y = x then some (.int k t) else kstB (fun z => if stored.contains z then u z else m₀ z) (ps c) y) → News h₀ env.locals h (Mut c ++ rest) →
      wpAny (model prog w) A (execs body env) (MPost h₀ env.locals I [I] rest Mut ps stored m₀ (P (i + 1)) { s with heap := h, toks := tk } Q) E { s with heap := h, toks := tk })
    (done : ∀ (c : σ) (u : Str → Option Value) (h : Heap) (tk : Nat), P (b₀ - a₀).toNat c → Fr h₀ env.locals h (kstB (fun z => if stored.contains z then u z else m₀ z) (ps c)) → News h₀ env.locals h (Mut c ++ fixed) → Q .next { s with heap := h, toks := tk }) :
    wpAny (model prog w) A (pyIter (.ref r)) (fun it s₂ => LoopAtV prog w A h₀ env x body Q E it s₂) E s := by
  refine wpAny_pyIter_range hr hsmall ?_
  have hn : Builtin.Range.rangeSize a₀ b₀ 1 = ((b₀ - a₀).toNat : Int) := rangeSize_nat _ _
  have W := (Walks.range (prog := prog) (w := w) hh s.heap.objs.size a₀ 1 (b₀ - a₀).toNat)
  refine m_for fixed Mut ps stored P c₀ W (fun i h st => ⟨_, st⟩) ?_ (next_is_new F) (by show IsRangeIter _ _ _ _ _; rw [hn]; simpa using Heap.get?_push_size _ rfl) (F.push _) (fun p hp => ⟨Heap.get?_push_of_some _ (N p hp).1, (N p hp).2⟩) hl ?_ hk hp ?_ ?_
  · intro hm
    exact absurd F.ns.lt ((List.mem_singleton.mp hm) ▸ Nat.lt_irrefl _)
  · intro p hp hI
    exact absurd (Heap.lt_size (N p (hl p hp)).1) (hI ▸ Nat.lt_irrefl _)
  · rintro c i v u h tk rest hi ⟨t, rfl⟩ hPc h1 h2 h3 h4 F₁ N₁
    have e1 : a₀ + (i : Int) * 1 = a₀ + (i : Int) := by omega
    rw [e1] at F₁
    exact turn c i _ t u h tk rest _ rfl hi hPc h1 h2 h3 h4 F₁ N₁
  · exact done

theorem m_rangeD {σ : Type} {r : Addr} {a₀ b₀ : Int} {t₀ u₀ v₀ : Tok} {m₀ : Str → Option Value} {news₀ : List (Addr × Obj)}
    (fixed : List (Addr × Obj)) (Mut : σ → List (Addr × Obj)) (ps : σ → List (Str × Value)) (stored : List Str) (P : Nat → σ → Prop) (c₀ : σ)
    (hh : A.handled = none) (hr : IsRange s.heap r a₀ b₀ (-1) t₀ u₀ v₀) (hsmall : Builtin.Range.small a₀ b₀ (-1) = true) (F : Fr h₀ env.locals s.heap m₀) (N : News h₀ env.locals s.heap news₀)
    (hl : ∀ p ∈ Mut c₀ ++ fixed, p ∈ news₀) (hk : ∀ p ∈ ps c₀, m₀ p.1 = some p.2) (hp : P 0 c₀)
    (turn : ∀ (c : σ) (i : Nat) (k : Int) (t : Tok) (u : Str → Option Value) (h : Heap) (tk : Nat) (rest : List (Addr × Obj)) (I : Addr), k = a₀ - (i : Int) → i < (a₀ - b₀).toNat → P i c → (∀ p ∈ fixed, p ∈ rest) → (∀ p ∈ rest, p ∈ fixed ∨ p.1 ∈ [I]) → (∃ oI, (I, oI) ∈ rest) → (∀ p ∈ Mut c, p.1 ≠ I) →
      Fr h₀ env.locals h (fun y => if y = x then some (.int k t) else kstB (fun z => if stored.contains z then u z else m₀ z) (ps c) y) → News h₀ env.locals h (Mut c ++ rest) →
      wpAny (model prog w) A (execs body env) (MPost h₀ env.locals I [I] rest Mut ps stored m₀ (P (i + 1)) { s with heap := h, toks := tk } Q) E { s with heap := h, toks := tk })
    (done : ∀ (c : σ) (u : Str → Option Value) (h : Heap) (tk : Nat), P (a₀ - b₀).toNat c → Fr h₀ env.locals h (kstB (fun z => if stored.contains z then u z else m₀ z) (ps c)) → News h₀ env.locals h (Mut c ++ fixed) → Q .next { s with heap := h, toks := tk }) :
    wpAny (model prog w) A (pyIter (.ref r)) (fun it s₂ => LoopAtV prog w A h₀ env x body Q E it s₂) E s := by
  refine wpAny_pyIter_range hr hsmall ?_
  have hn : Builtin.Range.rangeSize a₀ b₀ (-1) = ((a₀ - b₀).toNat : Int) := rangeSize_downNat _ _
  have W := (Walks.range (prog := prog) (w := w) hh s.heap.objs.size a₀ (-1) (a₀ - b₀).toNat)
  refine m_for fixed Mut ps stored P c₀ W (fun i h st => ⟨_, st⟩) ?_ (next_is_new F) (by show IsRangeIter _ _ _ _ _; rw [hn]; simpa using Heap.get?_push_size _ rfl) (F.push _) (fun p hp => ⟨Heap.get?_push_of_some _ (N p hp).1, (N p hp).2⟩) hl ?_ hk hp ?_ ?_
  · intro hm
    exact absurd F.ns.lt ((List.mem_singleton.mp hm) ▸ Nat.lt_irrefl _)
  · intro p hp hI
    exact absurd (Heap.lt_size (N p (hl p hp)).1) (hI ▸ Nat.lt_irrefl _)
  · rintro c i v u h tk rest hi ⟨t, rfl⟩ hPc h1 h2 h3 h4 F₁ N₁
    have e1 : a₀ + (i : Int) * (-1) = a₀ - (i : Int) := by omega
    rw [e1] at F₁
    exact turn c i _ t u h tk rest _ rfl hi hPc h1 h2 h3 h4 F₁ N₁
  · exact done

/-- over a made list -/
theorem m_list {σ : Type} {l : Addr} {vs : List Value} {kk : Nat} {m₀ : Str → Option Value} {news₀ : List (Addr × Obj)}
    (fixed : List (Addr × Obj)) (Mut : σ → List (Addr × Obj)) (ps : σ → List (Str × Value)) (stored : List Str) (P : Nat → σ → Prop) (c₀ : σ)
    (hh : A.handled = none) (hlm : (l, listOf vs.toArray kk) ∈ fixed) (F : Fr h₀ env.locals s.heap m₀) (N : News h₀ env.locals s.heap news₀)
    (hl : ∀ p ∈ Mut c₀ ++ fixed, p ∈ news₀) (hk : ∀ p ∈ ps c₀, m₀ p.1 = some p.2) (hp : P 0 c₀)
    (turn : ∀ (c : σ) (i : Nat) (v : Value) (u : Str → Option Value) (h : Heap) (tk : Nat) (rest : List (Addr × Obj)) (I : Addr), vs[i]? = some v → P i c → (∀ p ∈ fixed, p ∈ rest) → (∀ p ∈ rest, p ∈ fixed ∨ p.1 ∈ [I, l]) → (∃ oI, (I, oI) ∈ rest) → (∀ p ∈ Mut c, p.1 ≠ I) →
      Fr h₀ env.locals h (fun y => if y = x then some v else kstB (fun z => if stored.contains z then u z else m₀ z) (ps c) y) → News h₀ env.locals h (Mut c ++ rest) →
      wpAny (model prog w) A (execs body env) (MPost h₀ env.locals I [I, l] rest Mut ps stored m₀ (P (i + 1)) { s with heap := h, toks := tk } Q) E { s with heap := h, toks := tk })
    (done : ∀ (c : σ) (u : Str → Option Value) (h : Heap) (tk : Nat), P vs.length c → Fr h₀ env.locals h (kstB (fun z => if stored.contains z then u z else m₀ z) (ps c)) → News h₀ env.locals h (Mut c ++ fixed) → Q .next { s with heap := h, toks := tk }) :
    wpAny (model prog w) A (pyIter (.ref l)) (fun it s₂ => LoopAtV prog w A h₀ env x body Q E it s₂) E s := by
  have hm : (l, listOf vs.toArray kk) ∈ news₀ := hl _ (List.mem_append_right _ hlm)
  have hls : s.heap.IsList l vs.toArray := News.isList N hm
  have hlt : l < s.heap.objs.size := Heap.lt_size (N _ hm).1
  have hne : l ≠ s.heap.objs.size := Nat.ne_of_lt hlt
  refine wpAny_pyIter_list hls ?_
  have W := Walks.list (prog := prog) (w := w) hh s.heap.objs.size l hne vs.toArray
  have e : vs.toArray.size = vs.length := by simp
  rw [e] at W
  refine m_for fixed Mut ps stored P c₀ W (fun i h st => let ⟨o, ho, _⟩ := st.1; ⟨o, ho⟩) ?_ (next_is_new F) ⟨⟨_, Heap.get?_push_size _ rfl, rfl, rfl⟩, hls.at fun o e => Heap.get?_push_of_some _ e⟩ (F.push _) (fun p hp => ⟨Heap.get?_push_of_some _ (N p hp).1, (N p hp).2⟩) hl ?_ hk hp ?_ ?_
  · intro hm'
    rcases List.mem_cons.mp hm' with e | hm'
    · exact absurd F.ns.lt (e ▸ Nat.lt_irrefl _)
    · exact (N _ hm).2.1 (List.mem_singleton.mp hm').symm
  · intro p hp hI
    exact absurd (Heap.lt_size (N p (hl p hp)).1) (hI ▸ Nat.lt_irrefl _)
  · rintro c i v u h tk rest hi hv hPc h1 h2 h3 h4 F₁ N₁
    exact turn c i v u h tk rest _ (by simpa using hv) hPc h1 h2 h3 h4 F₁ N₁
  · exact done
end
end Mine
end
section
open PySem PySem.W PyProof.Rows
namespace Mine
theorem bitOr_shift {c x : Int} {k : Nat} (h0 : 0 ≤ c) (h1 : c < 2 ^ k) (hx : 0 ≤ x) : Builtin.bitOr c (x * 2 ^ k) = c + x * 2 ^ k := by
  obtain ⟨c, rfl⟩ := Int.eq_ofNat_of_zero_le h0
  obtain ⟨x, rfl⟩ := Int.eq_ofNat_of_zero_le hx
  have e2 : ((2 : Int) ^ k) = ((2 ^ k : Nat) : Int) := by simp
  have h1' : c < 2 ^ k := by rw [e2] at h1; exact Int.ofNat_lt.mp h1
  rw [e2]
  have e3 : (x : Int) * ((2 ^ k : Nat) : Int) = ((x * 2 ^ k : Nat) : Int) := by simp
  rw [e3]
  have e4 : Builtin.bitOr (c : Int) ((x * 2 ^ k : Nat) : Int) = ((c ||| (x * 2 ^ k) : Nat) : Int) := by
    unfold Builtin.bitOr Builtin.bitAnd
    have a0 : ∀ n : Nat, decide (0 ≤ Builtin.bitNot (n : Int)) = false := by intro n; rw [decide_eq_false_iff_not, kbt_not]; omega
    rw [a0, a0]
    have a3 : ∀ n : Nat, (Builtin.bitNot (Builtin.bitNot (n : Int))).toNat = n := by intro n; simp only [kbt_not]; omega
    simp only [a3]
    simp only [kbt_not]; omega
  rw [e4, Nat.or_comm, Nat.mul_comm x, ← Nat.two_pow_add_eq_or_of_lt h1' x]
  omega
end Mine
end
section
open PySem PySem.W PyProof.Rows PySem.Calls PySem.Spec
namespace Mine
section
variable {prog : Program} {w : World} {A A₀ : Around} {E : Value → Shared → Prop} {s : Shared} {K : Frag} {C L : Addr} {h₀ base : Heap} {m mg mb : Str → Option Value} {news : List (Addr × Obj)} {p : Program} {loose : List Str} {mean : ExcName → Option Value} {Q : Value → Shared → Prop}
/-- a def entered: all that stands at the call is the frame's ground -/
theorem code_defF {env : Env} {outer : List Env} {R : Result → Shared → Prop} {name qual : Str} {params : Arguments} {body : List Stmt} {scope : Scope} {dV kV doc pm cdv ct oc : Value} {an od : Option Addr} {osl : Array (Option Value)} {f : Addr} {args : Args} {binds : List (Str × Value)}
    (B : Below A₀ base outer h₀) (F : Fr h₀ L s.heap m) (X₀ : K.In h₀) (T : Top p loose mean mg mb h₀) (hA : A.frames = some (env :: outer)) (hf : env.frame = some L) (hke : env.scope.kind = .function)
    (ho : K.lookup f = some ⟨oc, od, .func (fnOf name qual params body scope dV kV doc pm an cdv ct), osl⟩) (hcd : codeIn K cdv qual = true) (hroom : A.depth < recursionLimit)
    (hbind : BindsTo s (fnOf name qual params body scope dV kV doc pm an cdv ct) args binds) (hloc : ∀ y ∈ binds, scope.names.lookup y.1 = some .local)
    (h : ∀ L' h₁, Fr s.heap L' h₁ (fun y => binds.reverse.lookup y) → News s.heap L' h₁ [] → Below A base (env :: outer) s.heap → K.In s.heap → Top p loose mean mg mb s.heap →
      wpAny (model prog w) (A.deeper (envOf qual scope L' f cdv)) (execs body (envOf qual scope L' f cdv))
        (fun fl s' => R (.ok (.ret (match fl with | .ret v => v | _ => .none))) s')
        (fun e s' => wpAny (model prog w) (A.deeper (envOf qual scope L' f cdv)) (leaving (envOf qual scope L' f cdv) e) (fun _ s'' => R (.error e) s'') (fun e' s'' => R (.error e') s'') s')
        { s with heap := h₁, toks := s.toks + binds.length })
    (hco : scope.isCoroutine = false) (hgen : scope.isGenerator = false) (hk : scope.kind = .function)
    (hcell : ∀ x ∈ scope.names, x.2 ≠ .cell) : codeAny (model prog w) A (.call (.ref f) args) R s := by
  have X := X₀.keeps F.keep
  refine codeAny_call_def (fd := fnOf name qual params body scope dV kV doc pm an cdv ct) (body := body) (binds := binds) hroom (X _ _ ho) rfl (T.nolimit.keeps F.keep) (codeRec_of X hcd) rfl hbind hcell hloc (fun h₁ hns hk₁ => ?_) hco hgen hk
  have hnew : base.get? L = none := by
    cases hq : base.get? L with
    | none => rfl
    | some o => exact absurd (Nat.lt_of_lt_of_le (Heap.lt_size (B.stays L o hq)) F.above) (Nat.lt_irrefl _)
  have BG : Below A base (env :: outer) s.heap := ⟨hA, fun b o e => F.keep b o (B.stays b o e), .cons (by rw [hke]; decide) hf F.ns hnew (B.frames.of_keeps fun b o e _ => ⟨o, F.keep b o e, rfl⟩)⟩
  exact h s.heap.objs.size h₁ ⟨hns, hk₁, Nat.le_refl _⟩ News.nil BG X (T.keeps F.keep)
/-- what stood stays, one more is made -/
theorem back_news {L' r : Addr} {h' : Heap} {m' : Str → Option Value} {o : Obj} {rest : List (Addr × Obj)} (F : Fr h₀ L s.heap m) (N : News h₀ L s.heap news) (F' : Fr s.heap L' h' m') (N' : News s.heap L' h' ((r, o) :: rest)) :
    Fr h₀ L h' m ∧ News h₀ L h' ((r, o) :: news) ∧ ∀ p ∈ news, p.1 ≠ r := by
  obtain ⟨oL, es, ep, hL, rr⟩ := F.ns
  have h1 := N' _ (.head _)
  refine ⟨⟨⟨oL, es, ep, F'.keep _ _ hL, rr⟩, fun b o e => F'.keep b o (F.keep b o e), F.above⟩, fun p hp => ?_, fun p hp e => ?_⟩
  · rcases List.mem_cons.mp hp with rfl | hp
    · refine ⟨h1.1, fun e => ?_, ?_⟩
      · have := h1.2.2; rw [show (r, o).1 = L from e, hL] at this; cases this
      · cases q : h₀.get? (r, o).1 with
        | none => rfl
        | some o' => have := h1.2.2; rw [F.keep _ _ q] at this; cases this
    · exact ⟨F'.keep _ _ (N p hp).1, (N p hp).2⟩
  · have := h1.2.2; rw [show (r, o).1 = p.1 from e.symm, (N p hp).1] at this; cases this
end
end Mine
end
section
open PySem PySem.W PyProof.Rows
namespace Mine
def PEnd {σ : Type} (h₀ : Heap) (L : Addr) (own : List (Addr × Obj)) (Led : σ → List (Addr × Obj)) (ps : σ → List (Str × Value)) (stored : List Str) (m₀ : Str → Option Value) (P : σ → Prop) (s₁ s₂ : Shared) : Prop :=
  ∃ (c' : σ) (h' : Heap) (tk : Nat) (m' : Str → Option Value) (news' : List (Addr × Obj)), s₂ = { s₁ with heap := h', toks := tk } ∧ Fr h₀ L h' m' ∧ News h₀ L h' news' ∧ (∀ p ∈ Led c' ++ own, p ∈ news') ∧ (∀ p ∈ ps c', m' p.1 = some p.2) ∧ (∀ z, (∀ p ∈ ps c', z ≠ p.1) → stored.contains z = false → m' z = m₀ z) ∧ P c'
def PPost {σ : Type} (h₀ : Heap) (L : Addr) (own : List (Addr × Obj)) (Led : σ → List (Addr × Obj)) (ps : σ → List (Str × Value)) (stored : List Str) (m₀ : Str → Option Value) (P : σ → Prop) (s₁ : Shared) (Q : Flow → Shared → Prop) (f : Flow) (s₂ : Shared) : Prop :=
  match f with
  | .ret v => Q (.ret v) s₂
  | .brk => Q .next s₂
  | _ => PEnd h₀ L own Led ps stored m₀ P s₁ s₂
theorem p_end {σ : Type} {h₀ : Heap} {L : Addr} {own : List (Addr × Obj)} {Led : σ → List (Addr × Obj)} {ps : σ → List (Str × Value)} {stored : List Str} {m₀ m' : Str → Option Value} {P : σ → Prop} {s₁ : Shared} {h' : Heap} {tk : Nat} {news' : List (Addr × Obj)} (c' : σ)
    (F : Fr h₀ L h' m') (N : News h₀ L h' news') (hn : ∀ p ∈ Led c' ++ own, p ∈ news') (hk : ∀ p ∈ ps c', m' p.1 = some p.2) (hr : ∀ z, (∀ p ∈ ps c', z ≠ p.1) → stored.contains z = false → m' z = m₀ z) (hp : P c') :
    PEnd h₀ L own Led ps stored m₀ P s₁ { s₁ with heap := h', toks := tk } := ⟨c', h', tk, m', news', rfl, F, N, hn, hk, hr, hp⟩
section
variable {prog : Program} {w : World} {A : Around} {E : Value → Shared → Prop} {s : Shared} {env : Env} {h₀ : Heap} {xi xc : Str} {body : List Stmt} {Q : Flow → Shared → Prop}
theorem m_pairs {σ : Type} {xs : List Int} {e : Addr} {m₀ : Str → Option Value} {news₀ : List (Addr × Obj)}
    (Led : σ → List (Addr × Obj)) (ps : σ → List (Str × Value)) (stored : List Str) (P : Nat → σ → Prop) (c₀ : σ)
    (S : PairSrcL prog w A E h₀ env.locals ItemKind.int xs (.ref e) s m₀ news₀)
    (hl : Led c₀ = news₀) (hadr : ∀ c, (Led c).map (·.1) = news₀.map (·.1)) (hk : ∀ p ∈ ps c₀, m₀ p.1 = some p.2) (hp : P 0 c₀)
    (turn : ∀ (c : σ) (i : Nat) (a : Int) (t ta : Tok) (u : Str → Option Value) (h : Heap) (tk : Nat) (own : List (Addr × Obj)), xs[i]? = some a → P i c → (∀ p ∈ own, ∀ q ∈ news₀, p.1 ≠ q.1) →
      Fr h₀ env.locals h (fun y => if y = xc then some (.int a ta) else if y = xi then some (.int i t) else kstB (fun z => if stored.contains z then u z else m₀ z) (ps c) y) → News h₀ env.locals h (Led c ++ own) →
      wpAny (model prog w) A (execs body env) (PPost h₀ env.locals own Led ps stored m₀ (P (i + 1)) { s with heap := h, toks := tk } Q) E { s with heap := h, toks := tk })
    (done : ∀ (c : σ) (u : Str → Option Value) (h : Heap) (tk : Nat), P xs.length c → Fr h₀ env.locals h (kstB (fun z => if stored.contains z then u z else m₀ z) (ps c)) → News h₀ env.locals h (Led c) → Q .next { s with heap := h, toks := tk }) :
    wpAny (model prog w) A (pyIter (.ref e)) (fun it s₂ => PairAt3 prog w A h₀ env xi xc body Q E it s₂) E s := by
  let J : Nat → (Str → Option Value) → List (Addr × Obj) → Prop := fun i m nx => ∃ c : σ, nx = Led c ∧ (∀ p ∈ ps c, m p.1 = some p.2) ∧ (∀ z, (∀ p ∈ ps c, z ≠ p.1) → stored.contains z = false → m z = m₀ z) ∧ P i c
  refine S env rfl xi xc body Q J ⟨c₀, hl.symm, hk, fun _ _ _ => rfl, hp⟩ ?_ ?_
  · rintro i a t v m₁ nx s₁ own ⟨hh', tk', rfl⟩ hi hv ⟨c, rfl, h1, h2, hPc⟩ _ hoff F₁ N₁
    obtain ⟨ta, rfl⟩ := ItemKind.int_is hv
    have N₂ : News h₀ env.locals hh' (Led c ++ own) := fun p hp => N₁ p (by simp only [List.mem_append] at hp ⊢; exact hp.symm)
    have e := m_fr (L := env.locals) (h := hh') h1 h2
    have F₂ : Fr h₀ env.locals hh' (fun y => if y = xc then some (.int a ta) else if y = xi then some (.int i t) else kstB (fun z => if stored.contains z then m₁ z else m₀ z) (ps c) y) := by
      simp only [e]; exact F₁
    refine wpAny_mono (turn c i a t ta m₁ hh' tk' own hi hPc hoff F₂ N₂) (fun f s₂ p => ?_) fun _ _ e => e
    have fin : PEnd h₀ env.locals own Led ps stored m₀ (P (i + 1)) { s with heap := hh', toks := tk' } s₂ → LoopStep2 h₀ env.locals own (Led c) (J (i + 1)) { s with heap := hh', toks := tk' } .next s₂ := by
      rintro ⟨c', h', tk, m', news', e, F', N', hn, hk', hr', hP'⟩
      refine ⟨rfl, h', tk, m', Led c', e, F', fun p hp => N' p (hn p ?_), (hadr c').trans (hadr c).symm, c', rfl, hk', hr', hP'⟩
      simp only [List.mem_append] at hp ⊢; exact hp.symm
    cases f with
    | ret v => exact p
    | brk => exact p
    | next => exact fin p
    | cont => exact fin p
  · rintro h' tk m' news' F' N' _ ⟨c, rfl, h1, h2, hPc⟩
    refine done c m' h' tk hPc ?_ N'
    rw [m_fr (L := env.locals) (h := h') h1 h2]; exact F'
end
theorem news_second {h₀ h : Heap} {L : Addr} {x y : Addr × Obj} {r : List (Addr × Obj)} (N : News h₀ L h (x :: y :: r)) : News h₀ L h [y] := fun p hp => N p (by rw [List.mem_singleton.mp hp]; exact .tail _ (.head _))
abbrev adN {h₀ h : Heap} {L a : Addr} {o : Obj} {r : List (Addr × Obj)} (_ : News h₀ L h ((a, o) :: r)) : Addr := a
end Mine
end
section
open PySem PySem.W PyProof.Rows
namespace Mine
section
variable {prog : Program} {w : World} {A : Around} {E : Value → Shared → Prop} {s : Shared} {env : Env} {h₀ : Heap} {x : Str} {body : List Stmt} {Q : Flow → Shared → Prop}
theorem m_rangeS {σ : Type} {r : Addr} {a₀ b₀ st : Int} {t₀ u₀ v₀ : Tok} {m₀ : Str → Option Value} {news₀ : List (Addr × Obj)}
    (fixed : List (Addr × Obj)) (Mut : σ → List (Addr × Obj)) (ps : σ → List (Str × Value)) (stored : List Str) (P : Nat → σ → Prop) (c₀ : σ) (n : Nat)
    (hh : A.handled = none) (hr : IsRange s.heap r a₀ b₀ st t₀ u₀ v₀) (hsmall : Builtin.Range.small a₀ b₀ st = true) (hn : Builtin.Range.rangeSize a₀ b₀ st = (n : Int)) (F : Fr h₀ env.locals s.heap m₀) (N : News h₀ env.locals s.heap news₀)
    (hl : ∀ p ∈ Mut c₀ ++ fixed, p ∈ news₀) (hk : ∀ p ∈ ps c₀, m₀ p.1 = some p.2) (hp : P 0 c₀)
    (turn : ∀ (c : σ) (i : Nat) (k : Int) (t : Tok) (u : Str → Option Value) (h : Heap) (tk : Nat) (rest : List (Addr × Obj)) (I : Addr), k = a₀ + (i : Int) * st → i < n → P i c → (∀ p ∈ fixed, p ∈ rest) → (∀ p ∈ rest, p ∈ fixed ∨ p.1 ∈ [I]) → (∃ oI, (I, oI) ∈ rest) → (∀ p ∈ Mut c, p.1 ≠ I) →
      Fr h₀ env.locals h (fun y => if y = x then some (.int k t) else kstB (fun z => if stored.contains z then u z else m₀ z) (ps c) y) → News h₀ env.locals h (Mut c ++ rest) →
      wpAny (model prog w) A (execs body env) (MPost h₀ env.locals I [I] rest Mut ps stored m₀ (P (i + 1)) { s with heap := h, toks := tk } Q) E { s with heap := h, toks := tk })
    (done : ∀ (c : σ) (u : Str → Option Value) (h : Heap) (tk : Nat), P n c → Fr h₀ env.locals h (kstB (fun z => if stored.contains z then u z else m₀ z) (ps c)) → News h₀ env.locals h (Mut c ++ fixed) → Q .next { s with heap := h, toks := tk }) :
    wpAny (model prog w) A (pyIter (.ref r)) (fun it s₂ => LoopAtV prog w A h₀ env x body Q E it s₂) E s := by
  refine wpAny_pyIter_range hr hsmall ?_
  have W := (Walks.range (prog := prog) (w := w) hh s.heap.objs.size a₀ st n)
  refine m_for fixed Mut ps stored P c₀ W (fun i h st => ⟨_, st⟩) ?_ (next_is_new F) (by show IsRangeIter _ _ _ _ _; rw [hn]; simpa using Heap.get?_push_size _ rfl) (F.push _) (fun p hp => ⟨Heap.get?_push_of_some _ (N p hp).1, (N p hp).2⟩) hl ?_ hk hp ?_ ?_
  · intro hm
    exact absurd F.ns.lt ((List.mem_singleton.mp hm) ▸ Nat.lt_irrefl _)
  · intro p hp hI
    exact absurd (Heap.lt_size (N p (hl p hp)).1) (hI ▸ Nat.lt_irrefl _)
  · rintro c i v u h tk rest hi ⟨t, rfl⟩ hPc h1 h2 h3 h4 F₁ N₁
    exact turn c i _ t u h tk rest _ rfl hi hPc h1 h2 h3 h4 F₁ N₁
  · exact done
theorem small_pos {a b st : Int} (hst : 0 < st) (ha : -(2 ^ 60) ≤ a) (ha' : a < 2 ^ 60) (hb : -(2 ^ 60) ≤ b) (hb' : b < 2 ^ 60) (hs : st < 2 ^ 60) : Builtin.Range.small a b st = true := by
  have h1 : Builtin.Range.rangeSize a b st ≤ 2 ^ 61 ∧ 0 ≤ Builtin.Range.rangeSize a b st := by
    unfold Builtin.Range.rangeSize
    rw [if_pos hst]
    split
    · have h2 := Int.ediv_nonneg (show 0 ≤ b - a - 1 by omega) (Int.le_of_lt hst)
      have h3 : (b - a - 1) / st ≤ b - a - 1 := Int.ediv_le_self _ (by omega)
      omega
    · omega
  unfold Builtin.Range.small
  rw [if_pos hst]
  simp only [Builtin.Range.rangeFitsLong, Bool.and_eq_true, Bool.or_eq_true, decide_eq_true_eq, beq_iff_eq]
  refine ⟨⟨⟨⟨⟨by omega, by omega⟩, by omega, by omega⟩, by omega, by omega⟩, by omega, by omega⟩, .inr ⟨by omega, by omega⟩⟩
theorem crossN_size {n one : Nat} (h : 0 < one) : Builtin.Range.rangeSize ((one : Int) * one) ((n : Int) + 1) one = (crossN n one : Nat) := by
  unfold Builtin.Range.rangeSize crossN
  rw [if_pos (by omega)]
  by_cases h1 : one * one ≤ n
  · rw [if_pos h1, if_pos (by have : ((one * one : Nat) : Int) = (one : Int) * one := by simp
                              omega)]
    have e : (n : Int) + 1 - (one : Int) * one - 1 = ((n - one * one : Nat) : Int) := by
      have : ((one * one : Nat) : Int) = (one : Int) * one := by simp
      omega
    rw [e]; simp
  · rw [if_neg h1, if_neg (by have : ((one * one : Nat) : Int) = (one : Int) * one := by simp
                              omega)]
    rfl
theorem crossN_lt {n one j : Nat} (h : 0 < one) (hj : j < crossN n one) : one * one + j * one ≤ n := by
  unfold crossN at hj
  split at hj
  · have h1 : j ≤ (n - one * one) / one := by omega
    have h2 := (Nat.le_div_iff_mul_le h).mp h1
    omega
  · omega
end
theorem crossL_len (one : Nat) (bs : List Bool) (j : Nat) : (crossL one bs j).length = bs.length := by
  unfold crossL
  induction j with
  | zero => rfl
  | succ j ih => rw [List.range_succ, List.foldl_append]; simpa using ih
theorem crossL_succ (one : Nat) (bs : List Bool) (j : Nat) : crossL one bs (j + 1) = (crossL one bs j).set (one * one + j * one) false := by
  unfold crossL; rw [List.range_succ, List.foldl_append]; rfl
theorem sieveTo_succ (n i : Nat) : sieveTo n (i + 1) = sieveStep n (i + 2) (sieveTo n i) := by
  unfold sieveTo; rw [List.range_succ, List.foldl_append]; rfl
theorem sieveTo_len (n i : Nat) : (sieveTo n i).1.length = n + 1 ∧ (sieveTo n i).2.length ≤ i := by
  induction i with
  | zero => simp [sieveTo]
  | succ i ih =>
    rw [sieveTo_succ]
    unfold sieveStep
    split
    · simp only [crossL_len, List.length_append, List.length_singleton]; omega
    · omega
theorem apart_rest' {l : Addr} {fixed rest : List (Addr × Obj)} {fp : List Addr} (h1 : ∀ p ∈ fixed, p.1 ≠ l) (h2 : l ∉ fp) (hb : ∀ p ∈ rest, p ∈ fixed ∨ p.1 ∈ fp) : ∀ p ∈ rest, p.1 ≠ l := fun p hp e =>
  (hb p hp).elim (fun h => h1 p h e) fun h => h2 (e ▸ h)
theorem ne_cons {l : Addr} {x : Addr × Obj} {r : List (Addr × Obj)} (h : x.1 ≠ l) (hr : ∀ p ∈ r, p.1 ≠ l) : ∀ p ∈ x :: r, p.1 ≠ l := fun p hp => (List.mem_cons.mp hp).elim (fun e => e ▸ h) (hr p)
theorem mem5 {x y z u : Addr × Obj} {news : List (Addr × Obj)} : ∀ p ∈ news, p ∈ x :: y :: z :: u :: news := fun _ h => .tail _ (.tail _ (.tail _ (.tail _ h)))
structure PSt where
  k : Nat
  tk : Tok
  rf : Addr
  vf : List Value
  kf : Nat
  zf : List Int
  F : Int
  rs : Addr
  vs : List Value
  ks : Nat
  zs : List Int
  S : Int
theorem news_two {h₀ h : Heap} {L : Addr} {x y : Addr × Obj} {mid news : List (Addr × Obj)} (N : News h₀ L h (x :: y :: mid)) (hs : ∀ p ∈ news, p ∈ mid) : News h₀ L h (x :: y :: news) := fun p hp => by
  rcases List.mem_cons.mp hp with rfl | hp
  · exact N _ (.head _)
  · rcases List.mem_cons.mp hp with rfl | hp
    · exact N _ (.tail _ (.head _))
    · exact N _ (.tail _ (.tail _ (hs p hp)))
theorem news_21 {h₀ h : Heap} {L : Addr} {x y z : Addr × Obj} {news : List (Addr × Obj)} (N : News h₀ L h (x :: y :: z :: news)) : News h₀ L h (y :: x :: news) := fun p hp => N p (by
  simp only [List.mem_cons] at hp ⊢; rcases hp with h | h | h <;> simp [h])
theorem news_13 {h₀ h : Heap} {L : Addr} {x y z : Addr × Obj} {news : List (Addr × Obj)} (N : News h₀ L h (x :: y :: z :: news)) : News h₀ L h (x :: z :: news) := fun p hp => N p (by
  simp only [List.mem_cons] at hp ⊢; rcases hp with h | h | h <;> simp [h])
end Mine
end
section
open PySem PySem.W PyProof.Rows
namespace Mine
abbrev tup2 (p : Int) (t : Tok) (e : Int) (t' : Tok) (n : Nat) : Obj := { cls := .type "tuple", data := .seq #[.int p t, .int e t'] n }
inductive PairsIn (news : List (Addr × Obj)) : List Value → List (Int × Nat) → Prop where
  | nil : PairsIn news [] []
  | cons {a : Addr} {p : Int} {e : Nat} {t t' : Tok} {n : Nat} {vs : List Value} {ps : List (Int × Nat)} : (a, tup2 p t (e : Int) t' n) ∈ news → PairsIn news vs ps → PairsIn news (.ref a :: vs) ((p, e) :: ps)
theorem PairsIn.mono {news news' : List (Addr × Obj)} {vs : List Value} {ps : List (Int × Nat)} (h : PairsIn news vs ps) (hs : ∀ p ∈ news, p ∈ news') : PairsIn news' vs ps := by
  induction h with
  | nil => exact .nil
  | cons hm _ ih => exact .cons (hs _ hm) ih
theorem PairsIn.length {news : List (Addr × Obj)} {vs : List Value} {ps : List (Int × Nat)} (h : PairsIn news vs ps) : vs.length = ps.length := by
  induction h with
  | nil => rfl
  | cons _ _ ih => simp [ih]
theorem PairsIn.take {news : List (Addr × Obj)} {vs : List Value} {ps : List (Int × Nat)} (h : PairsIn news vs ps) : ∀ k : Nat, PairsIn news (vs.take k) (ps.take k) := by
  induction h with
  | nil => intro k; simp; exact .nil
  | cons hm _ ih => intro k; cases k with
    | zero => exact .nil
    | succ k => exact .cons hm (ih k)
theorem PairsIn.drop {news : List (Addr × Obj)} {vs : List Value} {ps : List (Int × Nat)} (h : PairsIn news vs ps) : ∀ k : Nat, PairsIn news (vs.drop k) (ps.drop k) := by
  induction h with
  | nil => intro k; simp; exact .nil
  | cons hm h ih => intro k; cases k with
    | zero => exact .cons hm h
    | succ k => exact ih k
theorem PairsIn.snoc {news : List (Addr × Obj)} {vs : List Value} {ps : List (Int × Nat)} {a : Addr} {p : Int} {e : Nat} {t t' : Tok} {n : Nat} (h : PairsIn news vs ps) (hm : (a, tup2 p t (e : Int) t' n) ∈ news) : PairsIn news (vs ++ [.ref a]) (ps ++ [(p, e)]) := by
  induction h with
  | nil => exact .cons hm .nil
  | cons hm' _ ih => exact .cons hm' ih
theorem pick_to {vs : List Value} {y : Int} (h : 0 ≤ y) : kms_pick vs.toArray.toList none (some y) = vs.take y.toNat := by
  show kms_pick vs none (some y) = _
  unfold kms_pick kms_lo kms_hi
  simp only [if_neg (show ¬ y < 0 by omega), List.drop_zero, Nat.sub_zero]
  exact kmk_take_min _ _
theorem pick_from {vs : List Value} {x : Int} (h : 0 ≤ x) : kms_pick vs.toArray.toList (some x) none = vs.drop x.toNat := by
  show kms_pick vs (some x) none = _
  unfold kms_pick kms_lo kms_hi
  simp only [if_neg (show ¬ x < 0 by omega)]
  rw [kmk_drop_min]
  refine List.take_of_length_le ?_
  rw [List.length_drop]; omega
theorem size_self {vs : List Value} : vs.toArray.size = vs.length := by simp
def prodP : List (Int × Nat) → Int
  | [] => 1
  | (p, e) :: r => p ^ e * prodP r
theorem prodP_append (xs ys : List (Int × Nat)) : prodP (xs ++ ys) = prodP xs * prodP ys := by
  induction xs with
  | nil => simp [prodP]
  | cons x r ih => obtain ⟨p, e⟩ := x; simp only [List.cons_append, prodP, ih, Int.mul_assoc]
theorem prodP_pos {xs : List (Int × Nat)} (h : ∀ x ∈ xs, 1 ≤ x.1) : 1 ≤ prodP xs := by
  induction xs with
  | nil => simp [prodP]
  | cons x r ih =>
    obtain ⟨p, e⟩ := x
    have h1 := ih fun y hy => h y (.tail _ hy)
    have h2 := one_le_pow (h _ (.head _)) e
    have : 1 * 1 ≤ p ^ e * prodP r := Int.mul_le_mul h2 h1 (by omega) (by dsimp only at h2; omega)
    simp only [prodP]; omega
theorem prodP_split {xs : List (Int × Nat)} (k : Nat) (h : ∀ x ∈ xs, 1 ≤ x.1) : prodP (xs.take k) * prodP (xs.drop k) = prodP xs ∧ prodP (xs.take k) ≤ prodP xs ∧ prodP (xs.drop k) ≤ prodP xs := by
  have e : prodP (xs.take k) * prodP (xs.drop k) = prodP xs := by rw [← prodP_append, List.take_append_drop]
  have h1 := prodP_pos (xs := xs.take k) fun y hy => h y (List.mem_of_mem_take hy)
  have h2 := prodP_pos (xs := xs.drop k) fun y hy => h y (List.mem_of_mem_drop hy)
  have h3 : prodP (xs.take k) * 1 ≤ prodP (xs.take k) * prodP (xs.drop k) := Int.mul_le_mul_of_nonneg_left h2 (by omega)
  have h4 : 1 * prodP (xs.drop k) ≤ prodP (xs.take k) * prodP (xs.drop k) := Int.mul_le_mul_of_nonneg_right h1 (by omega)
  omega
end Mine
end
section
open PySem PySem.W PyProof.Rows
namespace Mine
def binE (n k : Nat) (p : Int) : Int := (facE n p.toNat : Int) - (facE k p.toNat : Int) - (facE (n - k) p.toNat : Int)
def binStep (n k : Nat) (acc : List (Int × Nat)) (p : Int) : List (Int × Nat) := if 0 < binE n k p then acc ++ [(p, (binE n k p).toNat)] else acc
def binP (n k : Nat) : List (Int × Nat) := (sieveL n).foldl (binStep n k) []
def binI (n k : Nat) : Int := if n < k then 0 else prodP (binP n k)
/-- Pascal's triangle -/
def chooseN : Nat → Nat → Nat
  | _, 0 => 1
  | 0, _ + 1 => 0
  | n + 1, k + 1 => chooseN n k + chooseN n (k + 1)
theorem sieve_facts : ∀ n : Fin 15, ∀ x ∈ sieveL n, 2 ≤ x ∧ x ≤ 14 := by decide +kernel
theorem sieve_len : ∀ n : Fin 15, (sieveL n).length ≤ 14 := by decide +kernel
theorem bin_facts : ∀ n : Fin 15, ∀ k : Fin 15, k.1 ≤ n.1 → (binP n k).length ≤ 15 ∧ (∀ x ∈ binP n k, 1 ≤ x.1 ∧ x.1 ≤ 14 ∧ x.2 ≤ 14) ∧ prodP (binP n k) = (chooseN n k : Nat) ∧ chooseN n k ≤ 4000 := by decide +kernel
theorem binFold_len (n k : Nat) : ∀ (xs : List Int) (acc : List (Int × Nat)), (xs.foldl (binStep n k) acc).length ≤ acc.length + xs.length
  | [], _ => by simp
  | x :: r, acc => by
    have h := binFold_len n k r (binStep n k acc x)
    have h2 : (binStep n k acc x).length ≤ acc.length + 1 := by unfold binStep; split <;> simp
    simp only [List.foldl_cons, List.length_cons]; omega
end Mine
namespace Mine
theorem foldl_take_succ {α β : Type} (f : β → α → β) (b : β) {xs : List α} {i : Nat} {x : α} (h : xs[i]? = some x) : (xs.take (i + 1)).foldl f b = f ((xs.take i).foldl f b) x := by
  rw [List.take_add_one, h]; simp
structure BSt where
  vs : List Value
  k : Nat
  ps : List (Int × Nat)
  led : List (Addr × Obj)
/-- a turn's list of pairs: at l, its tuples apart -/
structure BInv (news : List (Addr × Obj)) (l : Addr) (ps : List (Int × Nat)) (c : BSt) : Prop where
  e : c.ps = ps
  h : PairsIn c.led c.vs c.ps
  off : ∀ p ∈ c.led, p.1 ≠ l
end Mine
namespace Mine
abbrev oN {h₀ h : Heap} {L a : Addr} {o : Obj} {r : List (Addr × Obj)} (_ : News h₀ L h ((a, o) :: r)) : Obj := o
end Mine
namespace Mine
def swP0 (n : Nat) : List (Int × Nat) := (sieveL n).map fun p => (p, swE n p.toNat)
def swP (n : Nat) : List (Int × Nat) := (swP0 n).filter fun x => decide (0 < x.2)
end Mine
namespace Mine
def factN : Nat → Nat
  | 0 => 1
  | n + 1 => (n + 1) * factN n
theorem sw_facts : ∀ n : Fin 15, (swP n).length ≤ 15 ∧ (∀ x ∈ swP n, 1 ≤ x.1 ∧ x.1 ≤ 14 ∧ x.2 ≤ 14) ∧ 1 ≤ prodP (swP n) ∧ prodP (swP n) ≤ 100000 ∧ ((factN (n.1 / 2) : Nat) : Int) * (factN (n.1 / 2) : Nat) * prodP (swP n) = (factN n.1 : Nat) := by decide +kernel
end Mine
namespace Mine
theorem fact_le : ∀ n : Fin 8, factN n ≤ 5040 := by decide +kernel
end Mine
namespace Mine
theorem sieve_prod : ∀ n : Fin 15, prodL (sieveL n) ≤ 100000 := by decide +kernel
theorem cat_facts : ∀ n : Fin 8, binI (2 * n.1) (n.1 + 1) ≤ binI (2 * n.1) n.1 ∧ binI (2 * n.1) n.1 ≤ 4000 := by decide +kernel
def dfactN : Nat → Nat
  | 0 => 1
  | 1 => 1
  | n + 2 => (n + 2) * dfactN n
end Mine
namespace Mine
theorem dfact_even : ∀ n : Fin 9, n.1 % 2 = 0 → ((factN (n.1 / 2) : Nat) : Int) * 2 ^ (n.1 / 2) = (dfactN n.1 : Nat) := by decide +kernel
end Mine
end
section
open PySem PySem.W PyProof.Rows
namespace Mine
section
variable {prog : Program} {w : World} {A : Around} {s : Shared} {h₀ : Heap} {L : Addr} {m : Str → Option Value} {env : Env}
theorem compEnd_mono {s₁ : Shared} {I C D : Addr} {oI oC oD : Obj} {S : List (Addr × Obj) → Prop} {rest rest' : Value → List (Addr × Obj) → Prop} {y : Value} {s₂ : Shared} (h : LCg.CompEnd h₀ L m s₁ I oI C oC D oD S rest y s₂)
    (k : ∀ n, rest y n → rest' y n) : LCg.CompEnd h₀ L m s₁ I oI C oC D oD S rest' y s₂ := by
  obtain ⟨h', tk, n', e, F, N, o, hS, r⟩ := h
  exact ⟨h', tk, n', e, F, N, o, hS, k _ r⟩
/-- a comprehension by its word -/
theorem comp_ind {elt : Expr} {x : Str} {scope : Scope} {cl : List (Str × Addr)} {S : List (Addr × Obj) → Prop} {P : Nat → Value → Prop} {Fin : List Value → List (Addr × Obj) → Prop} (n : Nat) (J : Nat → List Value → List (Addr × Obj) → Prop)
    (fin : ∀ ys news, J n ys news → Fin ys news)
    (step : ∀ i ys news, i < n → J i ys news → ∀ v I oI C oC D m₂ h tk (E' : Value → Shared → Prop), P i v → LCg.NsObj oC m₂ → m₂ x = some v → Fr h₀ L h m → News h₀ L h ((I, oI) :: (C, oC) :: (D, LCg.lst ys) :: news) → LCg.Off3 I C D news → ((@Ne Nat I C) ∧ (@Ne Nat I D) ∧ (@Ne Nat C D)) →
      wpAny (model prog w) A (eval elt (compEnvC scope cl C env)) (LCg.CompEnd h₀ L m { s with heap := h, toks := tk } I oI C oC D (LCg.lst ys) S (fun y news' => J (i + 1) (ys ++ [y]) news')) E' { s with heap := h, toks := tk }) :
    ∀ k i ys news, k + i = n → J i ys news → LCg.CompRest prog w A h₀ L m env elt x scope cl s S P Fin k i ys news
  | 0, i, ys, news, e, hJ => by
    have : i = n := by omega
    subst this
    exact fin _ _ hJ
  | k + 1, i, ys, news, e, hJ => by
    refine LCg.CompRest.succ fun v I oI C oC D m₂ h tk E' hP hN hm F N off ne => ?_
    refine wpAny_mono (step i ys news (by omega) hJ v I oI C oC D m₂ h tk E' hP hN hm F N off ne) (fun y s₂ q => compEnd_mono q fun n' r => ?_) fun _ _ e => e
    exact comp_ind n J fin step k (i + 1) _ _ (by omega) r
/-- .. with a test -/
theorem comp_indT {ct elt : Expr} {x : Str} {scope : Scope} {cl : List (Str × Addr)} {S : List (Addr × Obj) → Prop} {P : Nat → Value → Prop} {Fin : List Value → List (Addr × Obj) → Prop} (n : Nat) (J : Nat → List Value → List (Addr × Obj) → Prop)
    (fin : ∀ ys news, J n ys news → Fin ys news)
    (step : ∀ i ys news, i < n → J i ys news → ∀ v I oI C oC D m₂ h tk (E' : Value → Shared → Prop), P i v → LCg.NsObj oC m₂ → m₂ x = some v → Fr h₀ L h m → News h₀ L h ((I, oI) :: (C, oC) :: (D, LCg.lst ys) :: news) → LCg.Off3 I C D news → ((@Ne Nat I C) ∧ (@Ne Nat I D) ∧ (@Ne Nat C D)) →
      wpAny (model prog w) A (isTrue ct (compEnvC scope cl C env) (eval ct (compEnvC scope cl C env))) (fun ok s' => if ok = true then
        wpAny (model prog w) A (eval elt (compEnvC scope cl C env)) (LCg.CompEnd h₀ L m { s with heap := h, toks := tk } I oI C oC D (LCg.lst ys) S (fun y news' => J (i + 1) (ys ++ [y]) news')) E' s'
        else LCg.CompEnd h₀ L m { s with heap := h, toks := tk } I oI C oC D (LCg.lst ys) S (fun _ news' => J (i + 1) ys news') Value.none s') E' { s with heap := h, toks := tk }) :
    ∀ k i ys news, k + i = n → J i ys news → LCt.CompRestT prog w A h₀ L m env ct elt x scope cl s S P Fin k i ys news
  | 0, i, ys, news, e, hJ => by
    have : i = n := by omega
    subst this
    exact fin _ _ hJ
  | k + 1, i, ys, news, e, hJ => by
    refine LCt.CompRestT.succ fun v I oI C oC D m₂ h tk E' hP hN hm F N off ne => ?_
    refine wpAny_mono (step i ys news (by omega) hJ v I oI C oC D m₂ h tk E' hP hN hm F N off ne) (fun ok s₂ q => ?_) fun _ _ e => e
    cases ok with
    | true =>
      simp only [if_true] at q ⊢
      refine wpAny_mono q (fun y s₃ q => compEnd_mono q fun n' r => ?_) fun _ _ e => e
      exact comp_indT n J fin step k (i + 1) _ _ (by omega) r
    | false =>
      simp only [Bool.false_eq_true, if_false] at q ⊢
      exact compEnd_mono q fun n' r => comp_indT n J fin step k (i + 1) _ _ (by omega) r
end
theorem PairsIn.at {news : List (Addr × Obj)} {vs : List Value} {ps : List (Int × Nat)} (h : PairsIn news vs ps) : ∀ (i : Nat) (v : Value), vs[i]? = some v → ∃ a p e t t' n, v = .ref a ∧ (a, tup2 p t ((e : Nat) : Int) t' n) ∈ news ∧ ps[i]? = some (p, e) := by
  induction h with
  | nil => intro i v h; simp at h
  | cons hm _ ih =>
    intro i v h
    cases i with
    | zero => simp at h; subst h; exact ⟨_, _, _, _, _, _, rfl, hm, by simp⟩
    | succ i => simpa using ih i v (by simpa using h)
theorem news_swap {h₀ h : Heap} {L : Addr} {x y : Addr × Obj} {news : List (Addr × Obj)} (N : News h₀ L h (x :: y :: news)) : News h₀ L h (y :: x :: news) := fun p hp => N p (by
  simp only [List.mem_cons] at hp ⊢; rcases hp with h | h | h <;> simp [h])
end Mine
end
section
open PySem PySem.W PyProof.Rows
namespace Mine
abbrev RaiR (base h₀ : Heap) (L : Addr) (m : Str → Option Value) (news : List (Addr × Obj)) (s : Shared) (E : Value → Shared → Prop) (cn : Str) (cs : Scope) (a : Addr) (ccd : Value) (cl : List (Str × Addr)) (outer : List Env) : Prop :=
  ∀ (e t' : Addr) (vs : List Value) (g' h' : Heap) (tk' : Nat), Fr h₀ L g' m → RaisedK base (envX cn cs L a ccd cl :: outer) e (.ref 37) t' vs news h' → g'.UpToSlots h' → E (.ref e) { s with heap := h', toks := tk' }
end Mine
end
section
open PySem PySem.W PyProof.Rows
namespace Mine
inductive RowsIn (news : List (Addr × Obj)) (B : Int) : List Value → List Int → Prop where
  | nil : RowsIn news B [] []
  | cons {a : Addr} {us : List Value} {k : Nat} {zs : List Int} {N : Int} {vs : List Value} {Ns : List Int} : (a, listOf us.toArray k) ∈ news → IntsAre us zs → Rep B zs N → 0 ≤ N → N < 2 ^ 40 → RowsIn news B vs Ns → RowsIn news B (.ref a :: vs) (N :: Ns)
theorem RowsIn.mono {news news' : List (Addr × Obj)} {B : Int} {vs : List Value} {Ns : List Int} (h : RowsIn news B vs Ns) (hs : ∀ p ∈ news, p ∈ news') : RowsIn news' B vs Ns := by
  induction h with
  | nil => exact .nil
  | cons hm hi hr h0 h1 _ ih => exact .cons (hs _ hm) hi hr h0 h1 ih
theorem RowsIn.length {news : List (Addr × Obj)} {B : Int} {vs : List Value} {Ns : List Int} (h : RowsIn news B vs Ns) : vs.length = Ns.length := by
  induction h with
  | nil => rfl
  | cons _ _ _ _ _ _ ih => simp [ih]
theorem RowsIn.snoc {news : List (Addr × Obj)} {B : Int} {vs : List Value} {Ns : List Int} {a : Addr} {us : List Value} {k : Nat} {zs : List Int} {N : Int} (h : RowsIn news B vs Ns) (hm : (a, listOf us.toArray k) ∈ news) (hi : IntsAre us zs) (hr : Rep B zs N) (h0 : 0 ≤ N) (h1 : N < 2 ^ 40) : RowsIn news B (vs ++ [.ref a]) (Ns ++ [N]) := by
  induction h with
  | nil => exact .cons hm hi hr h0 h1 .nil
  | cons hm' hi' hr' h0' h1' _ ih => exact .cons hm' hi' hr' h0' h1' ih
theorem RowsIn.at {news : List (Addr × Obj)} {B : Int} {vs : List Value} {Ns : List Int} (h : RowsIn news B vs Ns) : ∀ (i : Nat) (v : Value), vs[i]? = some v → ∃ a us k zs N, v = .ref a ∧ (a, listOf us.toArray k) ∈ news ∧ IntsAre us zs ∧ Rep B zs N ∧ 0 ≤ N ∧ N < 2 ^ 40 ∧ Ns[i]? = some N := by
  induction h with
  | nil => intro i v h; simp at h
  | cons hm hi hr h0 h1 _ ih =>
    intro i v h
    cases i with
    | zero => simp at h; subst h; exact ⟨_, _, _, _, _, rfl, hm, hi, hr, h0, h1, by simp⟩
    | succ i => simpa using ih i v (by simpa using h)
theorem RowsIn.bound {news : List (Addr × Obj)} {B : Int} {vs : List Value} {Ns : List Int} (h : RowsIn news B vs Ns) : ∀ x ∈ Ns, 0 ≤ x ∧ x < 2 ^ 40 := by
  induction h with
  | nil => intro x hx; cases hx
  | cons hm hi hr h0 h1 _ ih => intro x hx; exact (List.mem_cons.mp hx).elim (fun e => e ▸ ⟨h0, h1⟩) (ih x)
def sumL (xs : List Int) : Int := xs.foldl (· + ·) 0
theorem sumL_bound {xs : List Int} (h : ∀ x ∈ xs, 0 ≤ x ∧ x < 2 ^ 40) : ∀ i ≤ xs.length, 0 ≤ sumL (xs.take i) ∧ sumL (xs.take i) ≤ i * 2 ^ 40
  | 0, _ => by simp [sumL]
  | i + 1, hi => by
    have h1 := sumL_bound h i (by omega)
    have e : xs[i]? = some (xs[i]'(by omega)) := List.getElem?_eq_getElem (by omega)
    have h2 := h _ (List.mem_of_getElem? e)
    have h3 : sumL (xs.take (i + 1)) = sumL (xs.take i) + xs[i]'(by omega) := by unfold sumL; exact foldl_take_succ _ _ e
    rw [h3]; omega
theorem keep1 {x y : Addr × Obj} {r : List (Addr × Obj)} : ∀ p ∈ [x] ++ r, p ∈ x :: y :: r := fun p hp => (List.mem_cons.mp hp).elim (fun e => e ▸ .head _) fun h => .tail _ (.tail _ h)
structure SSt where
  r : Addr
  vs : List Value
  k : Nat
  zs : List Int
  S : Int
end Mine
end
section
open PySem PySem.W PyProof.Rows
namespace Mine
def dInts (zs : List Int) : PyData := .list (zs.map PyData.int)
inductive RepAll (B : Int) : List (List Int) → List Int → Prop where
  | nil : RepAll B [] []
  | cons {zs : List Int} {N : Int} {zss : List (List Int)} {Ns : List Int} : Rep B zs N → RepAll B zss Ns → RepAll B (zs :: zss) (N :: Ns)
theorem RepAll.eq_iff {B : Int} (hB : 1 < B) {zss : List (List Int)} {Ns : List Int} (h : RepAll B zss Ns) : ∀ {zss' : List (List Int)} {Ns' : List Int}, RepAll B zss' Ns' → (zss = zss' ↔ Ns = Ns') := by
  induction h with
  | nil => intro zss' Ns' h'; cases h' <;> simp
  | cons hr _ ih =>
    intro zss' Ns' h'
    cases h' with
    | nil => simp
    | cons hr' h' => rw [List.cons.injEq, List.cons.injEq, hr.eq_iff hB hr', ih h']
theorem RowsIn.reads {h₀ h : Heap} {L : Addr} {news : List (Addr × Obj)} {B : Int} {vs : List Value} {Ns : List Int} (H : RowsIn news B vs Ns) (N : News h₀ L h news) : ∃ zss as, ReadsAll h vs (zss.map dInts) as ∧ RepAll B zss Ns := by
  induction H with
  | nil => exact ⟨[], [], .nil, .nil⟩
  | cons hm hi hr _ _ _ ih =>
    obtain ⟨zss, as, h1, h2⟩ := ih
    exact ⟨_ :: zss, _, .cons (reads_newData (News.isList N hm) (ke_carried hi)) h1, .cons hr h2⟩
theorem same_rows : ∀ xs ys : List (List Int), PySem.Spec.sameAll (xs.map dInts) (ys.map dInts) = decide (xs = ys)
  | [], [] => by simp [PySem.Spec.sameAll]
  | [], _ :: _ => by simp [PySem.Spec.sameAll]
  | _ :: _, [] => by simp [PySem.Spec.sameAll]
  | a :: r, b :: t => by
    have h1 := ke_same a b
    simp only [List.map_cons, PySem.Spec.sameAll, same_rows r t]
    unfold dInts
    rw [h1]
    by_cases h : a = b <;> by_cases h' : r = t <;> simp [h, h']
theorem dInts_lay (zs : List Int) : (dInts zs).canLay0 = true := by simp [dInts, PyData.canLay0, ke_canLayAll0]
theorem dInts_depth (zs : List Int) : (dInts zs).depth = 1 := by simp [dInts, PyData.depth, ke_depthAll]
theorem rows_lay : ∀ xs : List (List Int), PyData.canLayAll0 (xs.map dInts) = true
  | [] => rfl
  | x :: r => by simp [PyData.canLayAll0, dInts_lay, rows_lay r]
theorem rows_depth : ∀ xs : List (List Int), PyData.depthAll (xs.map dInts) ≤ 1
  | [] => by simp [PyData.depthAll]
  | x :: r => by
    have := rows_depth r
    simp only [List.map_cons, PyData.depthAll, dInts_depth]; omega
theorem shaped_rows (xs : List (List Int)) : SeqAt.shaped (.list (xs.map dInts)) = true := by
  have h2 := rows_depth xs
  simp only [SeqAt.shaped, PyData.canLay0, PyData.depth, rows_lay, Bool.true_and, decide_eq_true_eq]
  exact decide_eq_true (Nat.le_trans (Nat.add_le_add_right h2 1) (by decide))
section
variable {prog : Program} {w : World} {A : Around} {E : Value → Shared → Prop} {s : Shared} {a b : Addr} {xs ys : List Value} {ns ms : List Int} {Q : Value → Shared → Prop} {h₀ : Heap} {L : Addr} {news : List (Addr × Obj)} {B : Int} {k1 k2 : Nat}
theorem ne_rows (N : News h₀ L s.heap news) (ha : (a, listOf xs.toArray k1) ∈ news) (hb : (b, listOf ys.toArray k2) ∈ news) (hi : RowsIn news B xs ns) (hj : RowsIn news B ys ms) (e0 : ns = ms) (hB : 1 < B) (hu : A.units + 64 < cLine) (h : Hold (Q (.bool false) s)) :
    wpAny (model prog w) A (compareOp .NotEq (.ref a) (.ref b)) Q E s := by
  obtain ⟨z1, as1, r1, p1⟩ := hi.reads N
  obtain ⟨z2, as2, r2, p2⟩ := hj.reads N
  refine ne_dataH_same (reads_list_at (N _ ha).1 rfl rfl r1) (reads_list_at (N _ hb).1 rfl rfl r2) (shaped_rows _) (shaped_rows _) hu (SeqAt.noMix_of_shape (.list (.list .int)) rfl _ _ (list_map_has fun _ => list_map_has fun _ => rfl) (list_map_has fun _ => list_map_has fun _ => rfl)) ?_
  have e : PySem.Spec.same (.list (z1.map dInts)) (.list (z2.map dInts)) = true := by
    simp only [PySem.Spec.same]
    rw [same_rows]
    exact decide_eq_true ((p1.eq_iff hB p2).mpr e0)
  rw [e]; exact h
end
theorem binI_all : ∀ n : Fin 15, ∀ k : Fin 15, 0 ≤ binI n.1 k.1 ∧ binI n.1 k.1 ≤ 4000 := by decide +kernel
theorem binI_le (n k : Nat) (h : n < 15) : 0 ≤ binI n k ∧ binI n k ≤ 4000 := by
  by_cases hk : k < 15
  · exact binI_all ⟨n, h⟩ ⟨k, hk⟩
  · rw [binI, if_pos (by omega)]; omega
theorem RowsIn.reverse {news : List (Addr × Obj)} {B : Int} {vs : List Value} {Ns : List Int} (h : RowsIn news B vs Ns) : RowsIn news B vs.reverse Ns.reverse := by
  induction h with
  | nil => exact .nil
  | cons hm hi hr h0 h1 _ ih => simp only [List.reverse_cons]; exact ih.snoc hm hi hr h0 h1
section
variable {prog : Program} {w : World} {A : Around} {E : Value → Shared → Prop} {s : Shared} {a b : Addr} {xs ys : List Value} {zs zs' : List Int} {n1 n2 : Int} {Q : Value → Shared → Prop} {h₀ : Heap} {L : Addr} {news : List (Addr × Obj)} {B : Int} {k1 k2 : Nat}
theorem ne_same (N : News h₀ L s.heap news) (ha : (a, listOf xs.toArray k1) ∈ news) (hb : (b, listOf ys.toArray k2) ∈ news) (hi : IntsAre xs zs) (hj : IntsAre ys zs') (r1 : Rep B zs n1) (r2 : Rep B zs' n2) (hB : 1 < B) (e : n1 = n2) (hu : A.units + 64 < cLine) (h : Hold (Q (.bool false) s)) :
    wpAny (model prog w) A (compareOp .NotEq (.ref a) (.ref b)) Q E s := by
  refine ke_ne_ints (News.isList N ha) (News.isList N hb) hi hj hu ?_
  rw [decide_eq_true ((r1.eq_iff hB r2).mpr e)]; exact h
theorem eq_ints (N : News h₀ L s.heap news) (ha : (a, listOf xs.toArray k1) ∈ news) (hb : (b, listOf ys.toArray k2) ∈ news) (hi : IntsAre xs zs) (hj : IntsAre ys zs') (r1 : Rep B zs n1) (r2 : Rep B zs' n2) (hB : 1 < B) (hu : A.units + 64 < cLine) (h : Hold (Q (.bool (decide (n1 = n2))) s)) :
    wpAny (model prog w) A (compareOp .Eq (.ref a) (.ref b)) Q E s := by
  refine ke_eq_ints (News.isList N ha) (News.isList N hb) hi hj hu ?_
  rw [decide_eq_decide.mpr (r1.eq_iff hB r2)]; exact h
end
section
variable {prog : Program} {w : World} {A : Around} {E : Value → Shared → Prop} {s : Shared} {h₀ : Heap} {L l : Addr} {m : Str → Option Value} {news : List (Addr × Obj)} {value slice : PySem.Expr} {vs : List Value} {vk : Value} {ops : List Value} {Q : Value → Shared → Prop} {k : Nat}
theorem rev_rows (F : Fr h₀ L s.heap m) (N : News h₀ L s.heap news) (hl : (l, listOf vs.toArray k) ∈ news) (pk : IsPart vk (some (-1))) (hz : vs.length ≤ 1000)
    (h : ∀ D h', Fr h₀ L h' m → News h₀ L h' ((D, listOf vs.reverse.toArray 0) :: news) → (∀ p ∈ news, p.1 < D) → Q (.ref D) { s with heap := h' })
    (hs : subscripted slice false (.ref l) (.ref s.heap.objs.size) = operate ops (getItem (.ref l) (.ref s.heap.objs.size))) (ht : ∀ r, letTemporaryGo value (.ref l) r = pure ()) :
    wpAny (model prog w) A (subscriptTail value slice (.ref l) (.ref s.heap.objs.size)) Q E { s with heap := s.heap.push { cls := .type "slice", data := .fields #[.none, .none, vk] } } :=
  krv_lit F N (News.isList N hl) pk rfl h hs ht (by simp only [List.size_toArray, sizeLine_eq]; omega)
end
theorem RowsIn.first {news : List (Addr × Obj)} {B c : Int} {vs : List Value} {Ns : List Int} (h : RowsIn news B vs Ns) (h1 : 1 ≤ Ns.length) (h0 : Ns.getD 0 0 = c) : ∃ ra us k zs yt, vs = .ref ra :: yt ∧ (ra, listOf us.toArray k) ∈ news ∧ IntsAre us zs ∧ Rep B zs c := by
  cases h with
  | nil => simp at h1
  | cons hm hi hr _ _ _ => simp at h0; subst h0; exact ⟨_, _, _, _, _, rfl, hm, hi, hr⟩
inductive InA (a : Addr) : List (Addr × Obj) → Prop where
  | head {o : Obj} {l : List (Addr × Obj)} : InA a ((a, o) :: l)
  | tail {p : Addr × Obj} {l : List (Addr × Obj)} : InA a l → InA a (p :: l)
theorem InA.mem {a : Addr} {l : List (Addr × Obj)} (h : InA a l) : ∃ o, (a, o) ∈ l := by
  induction h with
  | head => exact ⟨_, .head _⟩
  | tail _ ih => exact ih.elim fun o h => ⟨o, .tail _ h⟩
theorem neOf {r a : Addr} {l : List (Addr × Obj)} (h : ∀ p ∈ l, p.1 ≠ r) (hm : InA a l) : r ≠ a := fun e => hm.mem.elim fun _ hm => h _ hm e.symm
structure RSt where
  vs : List Value
  k : Nat
  led : List (Addr × Obj)
def rowN (n : Nat) : List Int := (List.range (n + 1)).map fun j => binI n j
def pascN (n m k : Nat) : List Int := (List.range (k + 1)).map fun i => binI n i * binI m (k - i)
def stickN (n k : Nat) : List Int := (List.range (n + 1)).map fun i => binI i k
theorem row_facts : ∀ n : Fin 9, sumL (rowN n.1) = 1 * 2 ^ n.1 ∧ (rowN n.1).reverse = rowN n.1 ∧ (rowN n.1).getD 0 0 = 1 := by decide +kernel
theorem rule_facts : ∀ n : Fin 9, ∀ k : Fin 11, binI (n.1 + 1) (k.1 + 1) = binI n.1 k.1 + binI n.1 (k.1 + 1) ∧ (binI n.1 k.1 = 0 ↔ n.1 < k.1) ∧ sumL (stickN n.1 k.1) = (if n.1 < k.1 then binI n.1 (k.1 + 1) else binI (n.1 + 1) (k.1 + 1)) := by decide +kernel
theorem pasc_facts : ∀ n : Fin 9, ∀ m : Fin 7, ∀ k : Fin 11, sumL (pascN n.1 m.1 k.1) = binI (n.1 + m.1) k.1 := by decide +kernel
end Mine
end
open PySem PySem.W PyProof.Rows Mine in
local macro_rules | `(tactic| walk_at "zm") => `(tactic| first | with_reducible assumption | (refine List.Mem.tail _ ?_; walk_at "zm"))
open PySem PySem.W PyProof.Rows Mine in
local macro_rules | `(tactic| walk_at "z1") => `(tactic| first | with_reducible assumption | ((with_reducible show _ = ScopeKind.function); exact rfl) | ((with_reducible show _ ∈ _); first | k_mem | walk_at "zm") | ((with_reducible show IntsAre _ _); first | exact .cons _ _ .nil | exact .nil) | ((with_reducible refine Mine.Rep.one ?_); omega) | with_reducible exact Mine.Rep.nil | ((first | with_reducible show Fr _ _ _ _ | with_reducible show News _ _ _ _ | with_reducible show Top _ _ _ _ _ _); k_asm) | ((fail_if_success intro _); first | ((with_reducible show List.length _ ≤ 100); exact Mine.len100 (by walk_at "z1") (by walk_at "z1") (by walk_at "z1") (by walk_at "z1")) | omega | ktr_room | ktr_units | (simp; done)))
open PySem PySem.W PyProof.Rows Mine in
local macro_rules | `(tactic| walk_at "z0") => `(tactic| all_goals (first | (fail_if_success with_reducible show (_ : Prop)) | (with_reducible show Hold _) | walk_at "z1" | (fail_if_success (fail_if_success intro _))))
open PySem PySem.W PyProof.Rows Mine in
local macro_rules | `(tactic| walk_at "z9") => `(tactic| intros; (try dsimp only); (try k_fold))
section
theorem Mine.w_off1 : True := by
  w_top off
  exact trivial
open PySem PySem.W PyProof.Rows
set_option maxRecDepth 100000
set_option maxHeartbeats 8000000
namespace Mine
local macro_rules | `(tactic| k_mem) => `(tactic| assumption)
local macro_rules | `(tactic| walk_at "MPost") => `(tactic| dsimp only [MPost])
local macro_rules | `(tactic| is_list) => `(tactic| exact News.isList (by with_reducible assumption) (by k_mem))
local macro_rules | `(tactic| k_all) => `(tactic| first | assumption | (refine allNe ?_; assumption) | (refine allNe (allLt_out ?_); assumption) | (refine allNe (allLt_out (And.right ?_)); assumption) | fail "no apartness")
local macro_rules | `(tactic| size_fits) => `(tactic| ((simp only [List.size_toArray, sizeLine_eq, List.length_append, List.length_cons, List.length_nil]); omega))
local macro_rules | `(tactic| walk_at "pyIter ref") => `(tactic| refine Hold.mk ?_)
local macro_rules | `(tactic| walk_at "call ref") => `(tactic| refine Hold.mk ?_)
section
variable {w : World} {p : Program} {loose : List Str} {mean : ExcName → Option Value} {mg mb : Str → Option Value} {dp un : Nat} {gd : Option (List Code)} {cn : Str} {cs : Scope} {a : Addr} {ccd : Value} {cl : List (Str × Addr)} {outer : List Env} {A₀ : Around} {base h₀ : Heap} {L : Addr} {m : Str → Option Value} {news : List (Addr × Obj)} {s : Shared} {Q E : Value → Shared → Prop}
  (B : Below A₀ base outer h₀) (F : Fr h₀ L s.heap m) (X : (hd.heap_39 w.params).In h₀) (N : News h₀ L s.heap news) (T : Top p loose mean mg mb h₀) (hk : cs.kind = .function)
include B F X N T hk
local macro_rules | `(tactic| walk_at "exec While Compare cons nil") => `(tactic| refine Hold.mk ?_)
theorem natof_spec {n W : Int} {t tw : Tok} (hn : 0 ≤ n) (hn' : n < 2 ^ 40) (hW : 3 ≤ W) (hW' : W ≤ 9) (hd : dp + 1 < recursionLimit) (hu : un + 8 < cLine)
    (ret : RetR h₀ L m news s Q (2 ^ W.toNat) n) :
    wpAny (model MP w) (ktrTop dp un gd cn cs L a ccd cl outer) (call (.ref 53) [.int n t, .int W tw]) Q E s := by
  revert X; delta MP; k_fill; intro X
  refine wpAny_call ?_
  k_dflt ktr_enter
  k_steps
  rename Fr _ _ _ _ => lF
  rename News _ _ _ _ => lN
  rename ∀ p ∈ news, _ => hlt
  refine Hold.out ?_
  obtain ⟨hB, hB'⟩ := pw hW hW'
  with_unfolding_all refine ksw_while (σ := Int × Tok × List Value × Nat × List Int) (fun c => (ad hlt, listOf c.2.2.1.toArray c.2.2.2.1) :: news) (fun c => [(Str.ofString "number", .int c.1 c.2.1)]) (fun c => IntsAre c.2.2.1 c.2.2.2.2) [] (fun c => NatInv (2 ^ W.toNat) c.2.2.2.2 c.1 n) (fun c => c.1.toNat) (n, t, [], 0, []) lF ?kn ?kf ?kk ?kp ?_
  case kn => exact lN.tail'
  case kf => exact .nil
  case kk => kst_all
  case kp => exact .start hn
  clear lF lN
  rintro ⟨x, tx, vs, k, zs⟩ u h tk hf hx F1 N1
  dsimp only [ad] at hf hx F1 N1 ⊢
  have hlen : 0 < x → vs.length ≤ 40 := fun h => hf.length ▸ hx.len (by omega) h hn'
  k_steps
  · rename News _ _ _ _ => nE
    rename 0 < x => hx0
    simp only [List.push_toArray] at nE
    have e1 : Builtin.bitAnd x (1 * 2 ^ W.toNat - 1) = x % 2 ^ W.toNat := by rw [Int.one_mul]; exact kbt_mask x _
    have e2 : x.fdiv (2 ^ W.toNat) = x / 2 ^ W.toNat := Int.fdiv_eq_ediv_of_nonneg _ (by omega)
    rw [e1] at nE
    refine ksw_end (x / 2 ^ W.toNat, _, vs ++ [_], k + 1, zs ++ [x % 2 ^ W.toNat]) (by assumption) nE (fun p hp => hp) (hf.append (.cons _ _ .nil)) (by rw [← e2]; kst_all) (by intro z h2 h3; simp only [List.forall_mem_cons, List.not_mem_nil, false_implies, implies_true, and_true, ne_eq] at h2; simp [kstB, h2]) (hx.step (by omega) hx0) ?_
    have := ediv_lt (show (1 : Int) < 2 ^ W.toNat by omega) hx0
    show (x / 2 ^ W.toNat).toNat < x.toNat
    omega
  · exact ret _ _ _ _ _ _ (by assumption) (by assumption) hf (hx.rep (by assumption)) (allNe hlt)

local macro_rules | `(tactic| walk_at "exec While BoolOp cons nil") => `(tactic| refine Hold.mk ?_)
theorem normal_spec {la : Addr} {va : List Value} {ka : Nat} {xs : List Int} {W M : Int} (hm : (la, listOf va.toArray ka) ∈ news) (hI : IntsAre va xs) (hl : xs.length ≤ 300) (hD : Dig W xs) (hv : val W xs = M) (hd : dp + 1 < recursionLimit) (hu : un + 8 < cLine)
    (ret : RetR h₀ L m news s Q W M) :
    wpAny (model MP w) (ktrTop dp un gd cn cs L a ccd cl outer) (call (.ref 46) [.ref la]) Q E s := by
  revert X; delta MP; k_fill; intro X
  refine wpAny_call ?_
  k_dflt ktr_enter
  have hlen := hI.length
  k_steps
  rename Fr _ _ _ _ => lF
  rename News _ _ _ _ => lN
  refine Hold.out ?_
  with_unfolding_all refine ksw_while (σ := Int × Tok) (fun _ => news) (fun c => [(Str.ofString "end", .int c.1 c.2)]) (fun _ => True) [] (fun c => 0 ≤ c.1 ∧ c.1 ≤ xs.length ∧ val W (xs.take c.1.toNat) = M) (fun c => c.1.toNat) (xs.length, ?t0) lF ?kn ?kf ?kk ?kp ?_
  case kn => exact lN
  case kf => trivial
  case kk => kst_all
  case kp => exact ⟨Int.natCast_nonneg _, Int.le_refl _, by simpa using hv⟩
  clear lF lN
  rintro ⟨x, tx⟩ u h tk - ⟨hx0, hx1, hx2⟩ F1 N1
  dsimp only at hx0 hx1 hx2 F1 N1 ⊢
  k_steps
  · rename News _ _ _ _ => nE
    refine ksw_end (x - 1, ?t1) (by assumption) nE (fun p hp => hp) trivial ?kk1 (by intro z h2 h3; simp only [List.forall_mem_cons, List.not_mem_nil, false_implies, implies_true, and_true, ne_eq] at h2; simp [kstB, h2]) ⟨by omega, by omega, normal_step (by assumption) hx1 (by assumption) hx2⟩ ?_
    case kk1 => kst_all
    show (x - 1).toNat < x.toNat
    omega
  · exact ret _ _ _ _ _ _ (by assumption) (by assumption) (by assumption) (normal_rep hx0 hx1 hD hx2 (.inr (by assumption))) (allNe (by assumption))
  · exact ret _ _ _ _ _ _ (by assumption) (by assumption) (by assumption) (normal_rep hx0 hx1 hD hx2 (.inl (by assumption))) (allNe (by assumption))

theorem compare_spec {la lb : Addr} {va vb : List Value} {ka kb : Nat} {xs ys : List Int} {W n1 n2 : Int} (hm : (la, listOf va.toArray ka) ∈ news) (hI : IntsAre va xs) (hl : xs.length ≤ 100) (hR : Rep W xs n1)
    (hm2 : (lb, listOf vb.toArray kb) ∈ news) (hI2 : IntsAre vb ys) (hl2 : ys.length ≤ 100) (hR2 : Rep W ys n2) (hW : 2 ≤ W) (hd : dp + 1 < recursionLimit) (hu : un + 8 < cLine)
    (ret : ∀ c t h' tk', Fr h₀ L h' m → News h₀ L h' news → (c < 0 ↔ n1 < n2) → Q (.int c t) { s with heap := h', toks := tk' }) :
    wpAny (model MP w) (ktrTop dp un gd cn cs L a ccd cl outer) (call (.ref 60) [.ref la, .ref lb]) Q E s := by
  revert X; delta MP; k_fill; intro X
  refine wpAny_call ?_
  k_dflt ktr_enter
  have hlen := hI.length
  have hlen2 := hI2.length
  k_steps
  · exact ret _ _ _ _ (by assumption) (by assumption) (iff_of_true (by decide) (hR.lt_of_len (by omega) hR2 (by omega)))
  · exact ret _ _ _ _ (by assumption) (by assumption) (iff_of_false (by decide) (fun h => by have := hR2.lt_of_len (by omega) hR (by omega); omega))
  rename Fr _ _ _ _ => lF
  rename News _ _ _ _ => lN
  rename IsRange _ _ _ _ _ _ _ _ => rgX
  rename (xs.length : Int) = _ => hxy
  refine Hold.out ?_
  with_unfolding_all refine m_rangeD (σ := Unit) news (fun _ => []) (fun _ => []) [Str.ofString "at"] (fun i _ => xs.drop (xs.length - i) = ys.drop (xs.length - i)) () (by rfl) rgX (small_down (by omega) (by omega) (by omega) (by omega)) lF lN (fun _ hp => hp) (fun _ hp => nomatch hp) ?kp ?_ ?_
  case kp => rw [List.drop_eq_nil_of_le (by omega), List.drop_eq_nil_of_le (by omega)]
  · clear lF lN rgX
    rintro _ i k t u h tk rest I rfl hi hP hfix hback - - F1 N1
    dsimp only [List.nil_append] at hP F1 N1 ⊢
    have hm' := hfix _ hm
    have hm2' := hfix _ hm2
    have hk1 : (xs.length - 1 - i : Int).toNat = xs.length - 1 - i := by omega
    have hi' : i < xs.length := by omega
    have hk2 : xs.length - 1 - i + 1 = xs.length - i := by omega
    k_steps
    · refine ret _ _ _ _ (by assumption) (cb_drop (by assumption) hfix) (iff_of_true (by decide) ?_)
      rw [← hR.val, ← hR2.val]
      refine cmp_lt (by omega) hR.dig hR2.dig (k := xs.length - 1 - i) (by omega) (by omega) (by rw [hk2]; exact hP) ?_
      rw [← hk1]; assumption
    · refine ret _ _ _ _ (by assumption) (cb_drop (by assumption) hfix) (iff_of_false (by decide) ?_)
      rw [← hR.val, ← hR2.val]
      refine fun h => Int.lt_irrefl _ (Int.lt_trans h (cmp_lt (by omega) hR2.dig hR.dig (k := xs.length - 1 - i) (by omega) (by omega) (by rw [hk2]; exact hP.symm) ?_))
      rw [← hk1]; omega
    · refine m_end () F1 N1 (fun p hp => hp) (fun _ hp => nomatch hp) (fun _ hp => nomatch hp) (by intro z _ h3; have h4 := h3; simp only [List.contains_cons, List.contains_nil, Bool.or_false, Bool.or_eq_false_iff, beq_eq_false_iff_ne, ne_eq] at h4; simp [kstB, h3, h4]) ?_
      show xs.drop (xs.length - (i + 1)) = ys.drop (xs.length - (i + 1))
      have hk3 : xs.length - (i + 1) = xs.length - 1 - i := by omega
      rw [hk3]
      refine cmp_same (by omega) (by omega) (by rw [hk2]; exact hP) ?_
      rw [← hk1]; assumption
  · clear lF lN rgX
    rintro _ u h tk hP F1 N1
    dsimp only [List.nil_append] at hP F1 N1 ⊢
    k_steps
    have hk1 : xs.length - (xs.length - 1 - -1 : Int).toNat = 0 := by omega
    rw [hk1] at hP
    simp only [List.drop_zero] at hP
    subst hP
    refine ret _ _ _ _ (by assumption) (by assumption) (iff_of_false (by decide) ?_)
    rw [← hR.val, ← hR2.val]
    exact Int.lt_irrefl _

omit B F X N T hk in
def addBody : List Stmt := match (PySem.Challenge.pw_pq0540_01.main.body[6]? : Option PySem.Stmt) with
  | some (.FunctionDef _ _ body _ _ _ _ _ _ _) => body
  | _ => []
omit B F X N T hk in
def addScope : Scope := match (PySem.Challenge.pw_pq0540_01.main.body[6]? : Option PySem.Stmt) with
  | some (.FunctionDef _ _ _ _ _ _ sc _ _ _) => sc
  | _ => PySem.Challenge.pw_pq0540_01.main.scope
omit B F X N T hk in
abbrev addEnv (L : Addr) : Env := envOf (Str.ofString "add") addScope L 67 (.ref 66)
omit B F X N T hk in
theorem fr_abw {g h : Heap} {L : Addr} {m' : Str → Option Value} {v1 v2 v3 : Value} (F : Fr g L h m') (h1 : m' (Str.ofString "a") = some v1) (h2 : m' (Str.ofString "b") = some v2) (h3 : m' (Str.ofString "w") = some v3) :
    Fr g L h (fun y => if y = Str.ofString "a" then some v1 else if y = Str.ofString "b" then some v2 else if y = Str.ofString "w" then some v3 else m' y) := by
  have e : (fun y => if y = Str.ofString "a" then some v1 else if y = Str.ofString "b" then some v2 else if y = Str.ofString "w" then some v3 else m' y) = m' := by
    funext y
    by_cases q1 : y = Str.ofString "a"
    · rw [if_pos q1, q1, h1]
    · rw [if_neg q1]
      by_cases q2 : y = Str.ofString "b"
      · rw [if_pos q2, q2, h2]
      · rw [if_neg q2]
        by_cases q3 : y = Str.ofString "w"
        · rw [if_pos q3, q3, h3]
        · rw [if_neg q3]
  rw [e]; exact F
omit B F X N T hk in
theorem add_rest {g : Heap} {L' : Addr} {u : Str → Option Value} {Q : Flow → Shared → Prop} {la lb : Addr} {va vb : List Value} {ka kb : Nat} {xs ys : List Int} {W n1 n2 : Int} {tw : Tok}
    (F : Fr g L' s.heap (fun y => if y = Str.ofString "a" then some (.ref la) else if y = Str.ofString "b" then some (.ref lb) else if y = Str.ofString "w" then some (.int W tw) else u y))
    (B : Below (ktrTop dp un gd cn cs L a ccd cl outer) base (envX cn cs L a ccd cl :: outer) g) (hk : cs.kind = .function) (N : News g L' s.heap news) (X : (hd.heap_39 w.params).In g) (T : Top p loose mean mg mb g) (hm : (la, listOf va.toArray ka) ∈ news) (hI : IntsAre va xs) (hl : xs.length ≤ 100) (hR : Rep (2 ^ W.toNat) xs n1)
    (hm2 : (lb, listOf vb.toArray kb) ∈ news) (hI2 : IntsAre vb ys) (hl2 : ys.length ≤ 100) (hR2 : Rep (2 ^ W.toNat) ys n2) (hW : 3 ≤ W) (hW' : W ≤ 9) (hle : ¬ xs.length < ys.length)
    (ret : ∀ (r : Addr) (vs : List Value) (k : Nat) (zs : List Int) (h' : Heap) (tk' : Nat) (m' : Str → Option Value), Fr g L' h' m' → News g L' h' ((r, listOf vs.toArray k) :: news) → IntsAre vs zs → Rep (2 ^ W.toNat) zs (n1 + n2) → (∀ p ∈ news, p.1 ≠ r) → Q (.ret (.ref r)) { s with heap := h', toks := tk' }) :
    wpAny (model MP w) ((ktrTop dp un gd cn cs L a ccd cl outer).deeper (addEnv L')) (execs (addBody.drop 1) (addEnv L')) Q (fun e s' => wpAny (model MP w) ((ktrTop dp un gd cn cs L a ccd cl outer).deeper (addEnv L')) (leaving (addEnv L') e) (fun _ s'' => E e s'') (fun e' s'' => E e' s'') s') s := by
  have hsc : addScope = PySem.Scope.mk _ _ _ _ _ := rfl
  unfold addEnv
  simp only [hsc]
  clear hsc
  revert X; delta MP; k_fill; intro X
  show wpAny _ _ (execs (_ :: _ :: _ :: _ :: _ :: []) _) _ _ _
  try k_fold
  have hlen := hI.length
  have hlen2 := hI2.length
  obtain ⟨hB, hB'⟩ := pw hW hW'
  k_steps
  rename Fr _ _ _ _ => lF
  rename News _ _ _ _ => lN
  rename IsRange _ _ _ _ _ _ _ _ => rgX
  rename ∀ p ∈ news, p.1 < _ => hlt
  refine Hold.out ?_
  with_unfolding_all refine m_range (σ := Int × Tok × List Value × Nat × List Int) news (fun c => [(ad hlt, listOf c.2.2.1.toArray c.2.2.2.1)]) (fun c => [(Str.ofString "carry", .int c.1 c.2.1)]) [Str.ofString "at"] (fun i c => AddInv (2 ^ W.toNat) i xs ys c.2.2.2.2 c.1 ∧ IntsAre c.2.2.1 c.2.2.2.2) (0, ?t0q, [], 0, []) (by rfl) rgX (small_one (by omega) (by omega) (by omega) (by omega)) lF lN (by intro p hp; simp only [List.mem_cons, List.mem_append, List.not_mem_nil, or_false] at hp ⊢; rcases hp with h | h <;> simp [h]) ?kkq ⟨.start, .nil⟩ ?_ ?_
  case kkq => kst_all
  · clear lF lN rgX
    rintro ⟨c, tc, vs, k, zs⟩ i kk t u h tk rest I rfl hi ⟨hP, hf⟩ hfix hback ⟨oI, hoI⟩ hMI F1 N1
    dsimp only [ad, List.cons_append, List.nil_append] at hi hP hf hMI F1 N1 ⊢
    have hlI := hMI _ (.head _)
    have hap := apart_rest hlt (fun h => hlI (List.mem_singleton.mp h)) hback
    have hm' := hfix _ hm
    have hm2' := hfix _ hm2
    have hvl : vs.length ≤ 100 := by have := hf.length; have := hP.len; omega
    k_steps
    have e0 : (0 + (i : Int)).toNat = i := by omega
    rename News _ _ _ _ => nE
    simp only [List.push_toArray, Int.one_mul, kbt_mask, e0] at nE
    have e2 : (c + (xs.getD i 0 + ys.getD i 0)).fdiv (2 ^ W.toNat) = (c + (xs.getD i 0 + ys.getD i 0)) / 2 ^ W.toNat := Int.fdiv_eq_ediv_of_nonneg _ (by omega)
    refine m_end ((c + (xs.getD i 0 + ys.getD i 0)) / 2 ^ W.toNat, ?t1qa, vs ++ [_], k + 1, zs ++ [(c + (xs.getD i 0 + ys.getD i 0)) % 2 ^ W.toNat]) (by assumption) nE (fun p hp => hp) ?nIq ?kk1q ?smq ⟨hP.step (by omega) hR.dig hR2.dig (by omega) (by omega), hf.append (.cons _ _ .nil)⟩
    case nIq => intro p hp; rw [List.mem_singleton.mp hp]; exact hlI
    case kk1q => simp only [e0]; rw [← e2]; kst_all
    case smq => intro z h2 h3; have h4 := h3; simp only [List.forall_mem_cons, List.not_mem_nil, false_implies, implies_true, and_true, ne_eq] at h2; simp only [List.contains_cons, List.contains_nil, Bool.or_false, Bool.or_eq_false_iff, beq_eq_false_iff_ne, ne_eq] at h4; simp [kstB, h2, h3, h4]
  · clear lF lN rgX
    rintro ⟨c, tc, vs, k, zs⟩ u h tk ⟨hP, hf⟩ F1 N1
    dsimp only [ad, List.cons_append, List.nil_append] at hP hf F1 N1 ⊢
    have en : (ys.length - 0 : Int).toNat = ys.length := by omega
    rw [en] at hP
    k_steps
    rename Fr _ _ _ _ => lF
    rename News _ _ _ _ => lN
    rename IsRange _ _ _ _ _ _ _ _ => rgX
    refine Hold.out ?_
    with_unfolding_all refine m_range (σ := Int × Tok × List Value × Nat × List Int) news (fun c => [(ad hlt, listOf c.2.2.1.toArray c.2.2.2.1)]) (fun c => [(Str.ofString "carry", .int c.1 c.2.1)]) [Str.ofString "at"] (fun i c => AddInv (2 ^ W.toNat) (ys.length + i) xs ys c.2.2.2.2 c.1 ∧ IntsAre c.2.2.1 c.2.2.2.2) (c, tc, vs, k, zs) (by rfl) rgX (small_one (by omega) (by omega) (by omega) (by omega)) lF lN (fun p hp => hp) ?kk2q ⟨hP, hf⟩ ?_ ?_
    case kk2q => kst_all
    · clear lF lN rgX hP hf
      rintro ⟨c, tc, vs, k, zs⟩ i kk t u h tk rest I rfl hi ⟨hP, hf⟩ hfix hback ⟨oI, hoI⟩ hMI F1 N1
      dsimp only [ad, List.cons_append, List.nil_append] at hi hP hf hMI F1 N1 ⊢
      have hlI := hMI _ (.head _)
      have hap := apart_rest hlt (fun h => hlI (List.mem_singleton.mp h)) hback
      have hm' := hfix _ hm
      have hm2' := hfix _ hm2
      have hvl : vs.length ≤ 200 := by have := hf.length; have := hP.len; omega
      k_steps
      have e0 : (ys.length + (i : Int)).toNat = ys.length + i := by omega
      rename News _ _ _ _ => nE
      simp only [List.push_toArray, Int.one_mul, kbt_mask, e0] at nE
      have e2 : (c + xs.getD (ys.length + i) 0).fdiv (2 ^ W.toNat) = (c + xs.getD (ys.length + i) 0) / 2 ^ W.toNat := Int.fdiv_eq_ediv_of_nonneg _ (by omega)
      refine m_end ((c + xs.getD (ys.length + i) 0) / 2 ^ W.toNat, ?t1qb, vs ++ [_], k + 1, zs ++ [(c + xs.getD (ys.length + i) 0) % 2 ^ W.toNat]) (by assumption) nE (fun p hp => hp) ?nIqb ?kk1qb ?smqb ⟨hP.step2 (by omega) hR.dig (show ys.length + i < xs.length by omega) (show ys.length ≤ ys.length + i by omega), hf.append (.cons _ _ .nil)⟩
      case nIqb => intro p hp; rw [List.mem_singleton.mp hp]; exact hlI
      case kk1qb => simp only [e0]; rw [← e2]; kst_all
      case smqb => intro z h2 h3; have h4 := h3; simp only [List.forall_mem_cons, List.not_mem_nil, false_implies, implies_true, and_true, ne_eq] at h2; simp only [List.contains_cons, List.contains_nil, Bool.or_false, Bool.or_eq_false_iff, beq_eq_false_iff_ne, ne_eq] at h4; simp [kstB, h2, h3, h4]
    · clear lF lN rgX hP hf
      rintro ⟨c, tc, vs, k, zs⟩ u h tk ⟨hP, hf⟩ F1 N1
      dsimp only [ad, List.cons_append, List.nil_append] at hP hf F1 N1 ⊢
      have en : ys.length + (xs.length - ys.length : Int).toNat = xs.length := by omega
      rw [en] at hP
      have hvl : vs.length ≤ 200 := by have := hf.length; have := hP.len; omega
      k_steps
      · rename News _ _ _ _ => nE
        simp only [List.push_toArray] at nE
        exact ret _ _ _ _ _ _ _ (by assumption) nE (hf.append (.cons _ _ .nil)) ((hP.rep1 (by omega) hR hR2 (by omega) (by assumption))) (allNe hlt)
      · exact ret _ _ _ _ _ _ _ (by assumption) (by assumption) hf ((hP.rep0 (by omega) hR hR2 (by omega) (by assumption))) (allNe hlt)
local macro_rules | `(tactic| walk_at "execs cons Assign cons") => `(tactic| ((with_reducible show wpAny _ _ (execs (Stmt.Assign _ _ _ :: Stmt.For _ _ _ _ _ :: _) _) _ _ _); refine Hold.mk ?_))
theorem add_spec {la lb : Addr} {va vb : List Value} {ka kb : Nat} {xs ys : List Int} {W n1 n2 : Int} {tw : Tok} (hm : (la, listOf va.toArray ka) ∈ news) (hI : IntsAre va xs) (hl : xs.length ≤ 100) (hR : Rep (2 ^ W.toNat) xs n1)
    (hm2 : (lb, listOf vb.toArray kb) ∈ news) (hI2 : IntsAre vb ys) (hl2 : ys.length ≤ 100) (hR2 : Rep (2 ^ W.toNat) ys n2) (hW : 3 ≤ W) (hW' : W ≤ 9) (hd : dp + 1 < recursionLimit) (hu : un + 8 < cLine)
    (ret : RetR h₀ L m news s Q (2 ^ W.toNat) (n1 + n2)) :
    wpAny (model MP w) (ktrTop dp un gd cn cs L a ccd cl outer) (call (.ref 67) [.ref la, .ref lb, .int W tw]) Q E s := by
  revert X; delta MP; k_fill; intro X
  refine wpAny_call ?_
  k_dflt ktr_enter
  have hlen := hI.length
  have hlen2 := hI2.length
  obtain ⟨hB, hB'⟩ := pw hW hW'
  by_cases hle : xs.length < ys.length
  · k_steps
    rename Fr _ _ _ _ => lF
    rename News _ _ _ _ => lN
    refine Hold.out ?_
    refine add_rest (fr_abw lF rfl rfl rfl) (by assumption) hk lN.tail' (by assumption) (by assumption) hm2 hI2 hl2 hR2 hm hI hl hR hW hW' (by omega) fun r vs k zs h' tk' m2 F2 N2 hI3 hR3 hne => ?_
    k_steps
    exact ret _ _ _ _ _ _ (by assumption) (by assumption) hI3 (Int.add_comm n1 n2 ▸ hR3) hne
  · k_steps
    rename Fr _ _ _ _ => lF
    rename News _ _ _ _ => lN
    refine Hold.out ?_
    refine add_rest (fr_abw lF rfl rfl rfl) (by assumption) hk lN (by assumption) (by assumption) hm hI hl hR hm2 hI2 hl2 hR2 hW hW' hle fun r vs k zs h' tk' m2 F2 N2 hI3 hR3 hne => ?_
    k_steps
    exact ret _ _ _ _ _ _ (by assumption) (by assumption) hI3 hR3 hne

end
end Mine
end
section
theorem Mine.w_off2 : True := by
  w_top off
  exact trivial
open PySem PySem.W PyProof.Rows
set_option maxRecDepth 100000
set_option maxHeartbeats 8000000
namespace Mine
local macro_rules | `(tactic| k_mem) => `(tactic| assumption)
local macro_rules | `(tactic| walk_at "MPost") => `(tactic| dsimp only [MPost])
local macro_rules | `(tactic| is_list) => `(tactic| exact News.isList (by with_reducible assumption) (by k_mem))
local macro_rules | `(tactic| k_all) => `(tactic| first | assumption | (refine allNe ?_; assumption) | (refine allNe (allLt_out ?_); assumption) | (refine allNe (allLt_out (And.right ?_)); assumption) | fail "no apartness")
local macro_rules | `(tactic| size_fits) => `(tactic| ((simp only [List.size_toArray, sizeLine_eq, List.length_append, List.length_cons, List.length_nil]); omega))
local macro_rules | `(tactic| walk_at "pyIter ref") => `(tactic| refine Hold.mk ?_)
local macro_rules | `(tactic| walk_at "call ref") => `(tactic| refine Hold.mk ?_)
section
variable {w : World} {p : Program} {loose : List Str} {mean : ExcName → Option Value} {mg mb : Str → Option Value} {dp un : Nat} {gd : Option (List Code)} {cn : Str} {cs : Scope} {a : Addr} {ccd : Value} {cl : List (Str × Addr)} {outer : List Env} {A₀ : Around} {base h₀ : Heap} {L : Addr} {m : Str → Option Value} {news : List (Addr × Obj)} {s : Shared} {Q E : Value → Shared → Prop}
  (B : Below A₀ base outer h₀) (F : Fr h₀ L s.heap m) (X : (hd.heap_39 w.params).In h₀) (N : News h₀ L s.heap news) (T : Top p loose mean mg mb h₀) (hk : cs.kind = .function)
include B F X N T hk
local macro_rules | `(tactic| walk_at "call ref") => `(tactic| (k_here; (with_reducible show wpAny _ _ (call (Value.ref 60) _) _ _ _); k_dflt (refine' compare_spec _ _ _ _ _ _ _ _ _ _ _ _ _ _ _ _ _ _; walk_at "z0"); walk_at "z9"))
local macro_rules | `(tactic| walk_at "call ref") => `(tactic| (k_here; (with_reducible show wpAny _ _ (call (Value.ref 46) _) _ _ _); k_dflt (refine' normal_spec _ _ _ _ _ _ _ _ _ _ _ _ _ _; walk_at "z0"); walk_at "z9"))
theorem sub_spec {la lb : Addr} {va vb : List Value} {ka kb : Nat} {xs ys : List Int} {W n1 n2 : Int} {tw : Tok} (hm : (la, listOf va.toArray ka) ∈ news) (hI : IntsAre va xs) (hl : xs.length ≤ 100) (hR : Rep (2 ^ W.toNat) xs n1)
    (hm2 : (lb, listOf vb.toArray kb) ∈ news) (hI2 : IntsAre vb ys) (hl2 : ys.length ≤ 100) (hR2 : Rep (2 ^ W.toNat) ys n2) (hW : 3 ≤ W) (hW' : W ≤ 9) (hn : n2 ≤ n1) (hd : dp + 3 < recursionLimit) (hu : un + 30 < cLine)
    (ret : RetR h₀ L m news s Q (2 ^ W.toNat) (n1 - n2)) :
    wpAny (model MP w) (ktrTop dp un gd cn cs L a ccd cl outer) (call (.ref 74) [.ref la, .ref lb, .int W tw]) Q E s := by
  revert X; delta MP; k_fill; intro X
  refine wpAny_call ?_
  k_dflt ktr_enter
  have hlen := hI.length
  have hlen2 := hI2.length
  obtain ⟨hB, hB'⟩ := pw hW hW'
  k_steps
  · exfalso; omega
  rename Fr _ _ _ _ => lF
  rename News _ _ _ _ => lN
  rename IsRange _ _ _ _ _ _ _ _ => rgX
  rename ∀ p ∈ news, p.1 < _ => hlt
  refine Hold.out ?_
  with_unfolding_all refine m_range (σ := Int × Tok × List Value × Nat × List Int) news (fun c => [(ad hlt, listOf c.2.2.1.toArray c.2.2.2.1)]) (fun c => [(Str.ofString "borrow", .int c.1 c.2.1)]) [Str.ofString "at", Str.ofString "limb"] (fun i c => SubInv (2 ^ W.toNat) i xs ys c.2.2.2.2 c.1 ∧ IntsAre c.2.2.1 c.2.2.2.2) (0, ?t0, [], 0, []) (by rfl) rgX (small_one (by omega) (by omega) (by omega) (by omega)) lF lN (fun p hp => .tail _ hp) ?kk ⟨.start, .nil⟩ ?_ ?_
  case kk => kst_all
  · clear lF lN rgX
    rintro ⟨c, tc, vs, k, zs⟩ i kk t u h tk rest I rfl hi ⟨hP, hf⟩ hfix hback ⟨oI, hoI⟩ hMI F1 N1
    dsimp only [ad, List.cons_append, List.nil_append] at hi hP hf hMI F1 N1 ⊢
    have hlI := hMI _ (.head _)
    have hap := apart_rest hlt (fun h => hlI (List.mem_singleton.mp h)) hback
    have hm' := hfix _ hm
    have hm2' := hfix _ hm2
    have hvl : vs.length ≤ 100 := by have := hf.length; have := hP.len; omega
    have e0 : (0 + (i : Int)).toNat = i := by omega
    k_steps
    · rename News _ _ _ _ => nE
      rename (_ : Int) < 0 => hneg
      simp only [List.push_toArray, Int.one_mul, e0] at nE hneg
      refine m_end (1, ?ta, vs ++ [_], k + 1, zs ++ [xs.getD i 0 - c - ys.getD i 0 + 2 ^ W.toNat]) (by assumption) nE (fun p hp => hp) ?nIa ?kka ?sma ⟨hP.stepNeg (by omega) hR.dig hR2.dig rfl hneg, hf.append (.cons _ _ .nil)⟩
      case nIa => intro p hp; rw [List.mem_singleton.mp hp]; exact hlI
      case kka => kst_all
      case sma => intro z h2 h3; have h4 := h3; simp only [List.forall_mem_cons, List.not_mem_nil, false_implies, implies_true, and_true, ne_eq] at h2; simp only [List.contains_cons, List.contains_nil, Bool.or_false, Bool.or_eq_false_iff, beq_eq_false_iff_ne, ne_eq] at h4; simp [kstB, h2, h3, h4]
    · rename News _ _ _ _ => nE
      rename ¬ (_ : Int) < 0 => hneg
      simp only [List.push_toArray, Int.one_mul, e0] at nE hneg
      refine m_end (0, ?tb, vs ++ [_], k + 1, zs ++ [xs.getD i 0 - c - ys.getD i 0]) (by assumption) nE (fun p hp => hp) ?nIb ?kkb ?smb ⟨hP.stepPos (by omega) hR.dig hR2.dig rfl hneg, hf.append (.cons _ _ .nil)⟩
      case nIb => intro p hp; rw [List.mem_singleton.mp hp]; exact hlI
      case kkb => kst_all
      case smb => intro z h2 h3; have h4 := h3; simp only [List.forall_mem_cons, List.not_mem_nil, false_implies, implies_true, and_true, ne_eq] at h2; simp only [List.contains_cons, List.contains_nil, Bool.or_false, Bool.or_eq_false_iff, beq_eq_false_iff_ne, ne_eq] at h4; simp [kstB, h2, h3, h4]
    · rename News _ _ _ _ => nE
      rename (_ : Int) < 0 => hneg
      simp only [List.push_toArray, Int.one_mul, e0] at nE hneg
      refine m_end (1, ?tc, vs ++ [_], k + 1, zs ++ [xs.getD i 0 - c - 0 + 2 ^ W.toNat]) (by assumption) nE (fun p hp => hp) ?nIc ?kkc ?smc ⟨hP.stepNeg (by omega) hR.dig hR2.dig (getD_none (by omega)) hneg, hf.append (.cons _ _ .nil)⟩
      case nIc => intro p hp; rw [List.mem_singleton.mp hp]; exact hlI
      case kkc => kst_all
      case smc => intro z h2 h3; have h4 := h3; simp only [List.forall_mem_cons, List.not_mem_nil, false_implies, implies_true, and_true, ne_eq] at h2; simp only [List.contains_cons, List.contains_nil, Bool.or_false, Bool.or_eq_false_iff, beq_eq_false_iff_ne, ne_eq] at h4; simp [kstB, h2, h3, h4]
    · rename News _ _ _ _ => nE
      rename ¬ (_ : Int) < 0 => hneg
      simp only [List.push_toArray, Int.one_mul, e0] at nE hneg
      refine m_end (0, ?td, vs ++ [_], k + 1, zs ++ [xs.getD i 0 - c - 0]) (by assumption) nE (fun p hp => hp) ?nId ?kkd ?smd ⟨hP.stepPos (by omega) hR.dig hR2.dig (getD_none (by omega)) hneg, hf.append (.cons _ _ .nil)⟩
      case nId => intro p hp; rw [List.mem_singleton.mp hp]; exact hlI
      case kkd => kst_all
      case smd => intro z h2 h3; have h4 := h3; simp only [List.forall_mem_cons, List.not_mem_nil, false_implies, implies_true, and_true, ne_eq] at h2; simp only [List.contains_cons, List.contains_nil, Bool.or_false, Bool.or_eq_false_iff, beq_eq_false_iff_ne, ne_eq] at h4; simp [kstB, h2, h3, h4]
  · clear lF lN rgX
    rintro ⟨c, tc, vs, k, zs⟩ u h tk ⟨hP, hf⟩ F1 N1
    dsimp only [ad, List.cons_append, List.nil_append] at hP hf F1 N1 ⊢
    have en : (xs.length - 0 : Int).toNat = xs.length := by omega
    rw [en] at hP
    have hv := hP.fin (by omega) hR hR2 hn
    have hvl : zs.length ≤ 100 := by have := hP.len; omega
    have hD := hP.dig
    k_steps
    exact ret _ _ _ _ _ _ (by assumption) (news_head (by assumption) mem2) (by assumption) (by assumption) (ne_drop (by assumption) mem2)

theorem shift_spec {la : Addr} {va : List Value} {ka : Nat} {xs : List Int} {W n n1 : Int} {tn tw : Tok} (hm : (la, listOf va.toArray ka) ∈ news) (hI : IntsAre va xs) (hl : xs.length ≤ 100) (hR : Rep (2 ^ W.toNat) xs n1)
    (hn0 : 0 ≤ n) (hn1 : n ≤ 100) (hW : 3 ≤ W) (hW' : W ≤ 9) (hd : dp + 1 < recursionLimit) (hu : un + 8 < cLine)
    (ret : RetR h₀ L m news s Q (2 ^ W.toNat) (n1 * 2 ^ n.toNat)) :
    wpAny (model MP w) (ktrTop dp un gd cn cs L a ccd cl outer) (call (.ref 81) [.ref la, .int n tn, .int W tw]) Q E s := by
  revert X; delta MP; k_fill; intro X
  refine wpAny_call ?_
  k_dflt ktr_enter
  have hlen := hI.length
  obtain ⟨hB, hB'⟩ := pw hW hW'
  obtain ⟨hq0, hq1, hr0, hr1, hqr⟩ := fdiv_fmod hn0 (show 0 < W by omega)
  k_steps
  · refine ret _ [] _ [] _ _ (by assumption) (by assumption) .nil ?_ (allNe (by assumption))
    have : xs = [] := List.eq_nil_of_length_eq_zero (by omega)
    subst this
    have := hR.val
    simp only [val] at this
    rw [← this, Int.zero_mul]; exact .nil
  rename Fr _ _ _ _ => lF
  rename News _ _ _ _ => lN
  rename _ < _ ∧ _ < _ ∧ AllLt _ news => hA
  rename IntsAre (List.replicate _ _).flatten _ => hI0
  have hlt := allLt_out hA.2.2
  refine Hold.out ?_
  with_unfolding_all refine m_list (σ := Int × Tok × List Value × Nat × List Int) news (fun c => [(ad hlt, listOf c.2.2.1.toArray c.2.2.2.1)]) (fun c => [(Str.ofString "carry", .int c.1 c.2.1)]) [Str.ofString "one"] (fun i c => ShInv (2 ^ W.toNat) (2 ^ (n.fmod W).toNat) (n.fdiv W).toNat i xs c.2.2.2.2 c.1 ∧ IntsAre c.2.2.1 c.2.2.2.2) (0, ?t0, _, 0, _) (by rfl) hm lF lN ?led ?kk ⟨?st, hI0⟩ ?_ ?_
  case led => intro p hp; simp only [List.mem_cons, List.mem_append, List.not_mem_nil, or_false] at hp ⊢; rcases hp with h | h <;> simp [h]
  case kk => kst_all
  case st => exact .start _ _
  · clear lF lN
    rintro ⟨c, tc, vs, k, zs⟩ i v u h tk rest I hv ⟨hP, hf⟩ hfix hback ⟨oI, hoI⟩ hMI F1 N1
    obtain ⟨x, tx, rfl, hx⟩ := hI.at i v hv
    dsimp only [ad, List.cons_append, List.nil_append] at hP hf hMI F1 N1 ⊢
    have hlI := hMI _ (.head _)
    have hap := apart_rest hlt (fun h => by rcases List.mem_cons.mp h with e | e; exact hlI e; exact Nat.lt_irrefl _ (List.mem_singleton.mp e ▸ hlt _ hm)) hback
    have hi : i < va.length := by
      rcases Nat.lt_or_ge i va.length with h | h
      · exact h
      · rw [List.getElem?_eq_none h] at hv; cases hv
    have hvl : vs.length ≤ 300 := by have := hf.length; have := hP.len; omega
    have hx0 := hR.dig.get hx
    k_steps
    rename News _ _ _ _ => nE
    have hor := bitOr_shift hP.c0 hP.c1 hx0.1
    simp only [List.push_toArray, Int.one_mul, kbt_mask, hor] at nE
    have e2 : (c + x * 2 ^ (n.fmod W).toNat).fdiv (2 ^ W.toNat) = (c + x * 2 ^ (n.fmod W).toNat) / 2 ^ W.toNat := Int.fdiv_eq_ediv_of_nonneg _ (by omega)
    refine m_end ((c + x * 2 ^ (n.fmod W).toNat) / 2 ^ W.toNat, ?t1, vs ++ [_], k + 1, zs ++ [(c + x * 2 ^ (n.fmod W).toNat) % 2 ^ W.toNat]) (by assumption) nE (fun p hp => hp) ?nI ?kk1 ?sm ⟨hP.step (by omega) hx hx0.1 hx0.2 rfl, hf.append (.cons _ _ .nil)⟩
    case nI => intro p hp; rw [List.mem_singleton.mp hp]; exact hlI
    case kk1 => simp only [hor]; rw [← e2]; kst_all
    case sm => intro z h2 h3; have h4 := h3; simp only [List.forall_mem_cons, List.not_mem_nil, false_implies, implies_true, and_true, ne_eq] at h2; simp only [List.contains_cons, List.contains_nil, Bool.or_false, Bool.or_eq_false_iff, beq_eq_false_iff_ne, ne_eq] at h4; simp [kstB, h2, h3, h4]
  · clear lF lN
    rintro ⟨c, tc, vs, k, zs⟩ u h tk ⟨hP, hf⟩ F1 N1
    dsimp only [ad, List.cons_append, List.nil_append] at hP hf F1 N1 ⊢
    rw [hI.length] at hP
    have hvl : vs.length ≤ 300 := by have := hf.length; have := hP.len; omega
    have hfew : (2 : Int) ^ (n.fmod W).toNat ≤ 2 ^ W.toNat := pow_le (by omega) (by omega)
    have hfew1 : (1 : Int) ≤ 2 ^ (n.fmod W).toNat := pow_pos (by omega) _
    have hM : n1 * 2 ^ n.toNat = n1 * 2 ^ (n.fmod W).toNat * (2 ^ W.toNat) ^ (n.fdiv W).toNat := by
      rw [Int.mul_assoc, ← Int.pow_mul, ← Int.pow_add]
      congr 2
      have e1 : (((n.fmod W).toNat + W.toNat * (n.fdiv W).toNat : Nat) : Int) = n := by
        rw [Int.natCast_add, Int.natCast_mul, Int.toNat_of_nonneg hr0, Int.toNat_of_nonneg hq0, Int.toNat_of_nonneg (show 0 ≤ W by omega)]; omega
      omega
    k_steps
    · rename News _ _ _ _ => nE
      simp only [List.push_toArray] at nE
      exact ret _ _ _ _ _ _ (by assumption) nE (hf.append (.cons _ _ .nil)) (hP.rep1 (by omega) hR hfew (by assumption) hM) (allNe hlt)
    · exact ret _ _ _ _ _ _ (by assumption) (by assumption) hf (hP.rep0 (by omega) hR (by intro e; subst e; simp at *) hfew1 (by assumption) hM) (allNe hlt)

end
end Mine
end
section
theorem Mine.w_off3 : True := by
  w_top off
  exact trivial
open PySem PySem.W PyProof.Rows
set_option maxRecDepth 100000
set_option maxHeartbeats 8000000
namespace Mine
local macro_rules | `(tactic| k_mem) => `(tactic| assumption)
local macro_rules | `(tactic| walk_at "MPost") => `(tactic| dsimp only [MPost])
local macro_rules | `(tactic| is_list) => `(tactic| exact News.isList (by with_reducible assumption) (by k_mem))
local macro_rules | `(tactic| k_all) => `(tactic| first | assumption | (refine allNe ?_; assumption) | (refine allNe (allLt_out ?_); assumption) | (refine allNe (allLt_out (And.right ?_)); assumption) | fail "no apartness")
local macro_rules | `(tactic| size_fits) => `(tactic| ((simp only [List.size_toArray, sizeLine_eq, List.length_append, List.length_cons, List.length_nil]); omega))
local macro_rules | `(tactic| walk_at "pyIter ref") => `(tactic| refine Hold.mk ?_)
local macro_rules | `(tactic| walk_at "call ref") => `(tactic| refine Hold.mk ?_)
section
variable {w : World} {p : Program} {loose : List Str} {mean : ExcName → Option Value} {mg mb : Str → Option Value} {dp un : Nat} {gd : Option (List Code)} {cn : Str} {cs : Scope} {a : Addr} {ccd : Value} {cl : List (Str × Addr)} {outer : List Env} {A₀ : Around} {base h₀ : Heap} {L : Addr} {m : Str → Option Value} {news : List (Addr × Obj)} {s : Shared} {Q E : Value → Shared → Prop}
  (B : Below A₀ base outer h₀) (F : Fr h₀ L s.heap m) (X : (hd.heap_39 w.params).In h₀) (N : News h₀ L s.heap news) (T : Top p loose mean mg mb h₀) (hk : cs.kind = .function)
include B F X N T hk
local macro_rules | `(tactic| walk_at "call ref") => `(tactic| (k_here; (with_reducible show wpAny _ _ (call (Value.ref 46) _) _ _ _); k_dflt (refine' normal_spec _ _ _ _ _ _ _ _ _ _ _ _ _ _; walk_at "z0"); walk_at "z9"))
local macro_rules | `(tactic| walk_at "PPost") => `(tactic| dsimp only [PPost])
local macro_rules | `(tactic| walk_at "exec For Tuple Call cons nil") => `(tactic| refine Hold.mk ?_)
theorem mul_spec {la lb : Addr} {va vb : List Value} {ka kb : Nat} {xs ys : List Int} {W n1 n2 : Int} {tw : Tok} (hm : (la, listOf va.toArray ka) ∈ news) (hI : IntsAre va xs) (hl : xs.length ≤ 100) (hR : Rep (2 ^ W.toNat) xs n1)
    (hm2 : (lb, listOf vb.toArray kb) ∈ news) (hI2 : IntsAre vb ys) (hl2 : ys.length ≤ 100) (hR2 : Rep (2 ^ W.toNat) ys n2) (hW : 3 ≤ W) (hW' : W ≤ 9) (hd : dp + 3 < recursionLimit) (hu : un + 30 < cLine)
    (ret : RetR h₀ L m news s Q (2 ^ W.toNat) (n1 * n2)) :
    wpAny (model MP w) (ktrTop dp un gd cn cs L a ccd cl outer) (call (.ref 177) [.ref la, .ref lb, .int W tw]) Q E s := by
  revert X; delta MP; k_fill; intro X
  refine wpAny_call ?_
  have hla := News.isList N hm
  have hlb := News.isList N hm2
  k_dflt (refine' code_defF ?k1 ?k2 ?k3 ?k5 ?kA ?kF ?kK ?k6 ?k7 ?k8 ?k9 ?kB ?_ ?c2 ?c3 ?c4 ?c5; (case kA => exact rfl); (case kF => exact rfl); (case kK => assumption); (case k1 => k_asm); (case k2 => k_asm); (case k3 => k_asm); (case k5 => k_asm); (case k6 => k_is); (case k7 => k_is); (case k8 => ktr_room); (case k9 => exact BindsTo.of_eq rfl); (case c5 => decide); (case kB => exact locs rfl); (case c2 => exact rfl); (case c3 => exact rfl); (case c4 => exact rfl); k_whole; intro L' h' F' N' B' X' T'; (try dsimp only); (try k_fold))
  have hlen := hI.length
  have hlen2 := hI2.length
  obtain ⟨hB, hB'⟩ := pw hW hW'
  k_steps
  rename Fr _ _ _ _ => lF
  rename News _ _ _ _ => lN0
  rename IntsAre (List.replicate _ _).flatten _ => hI0
  have lN := news_second lN0
  clear lN0
  refine Hold.out ?_
  with_reducible apply For_pair3F
  case _F => with_unfolding_all exact lF
  case hh => with_unfolding_all rfl
  case hxi => with_unfolding_all rfl
  case hxc => with_unfolding_all rfl
  case hp => with_unfolding_all rfl
  case hs => (intro _; with_unfolding_all rfl)
  k_steps
  rename PairSrcL _ _ _ _ _ _ _ _ _ _ _ _ => hS
  refine Hold.out ?_
  with_unfolding_all refine m_pairs (σ := List Value × Nat × List Int) (fun c => [(adN lN, listOf c.1.toArray c.2.1)]) (fun _ => []) [Str.ofString "at", Str.ofString "limb", Str.ofString "carry", Str.ofString "spot", Str.ofString "other"] (fun i c => MulInv (2 ^ W.toNat) i xs ys c.2.2 ∧ IntsAre c.1 c.2.2) (_, _, _) hS rfl (fun _ => rfl) (fun _ hp => nomatch hp) ⟨.start (by omega) (by omega), hI0⟩ ?_ ?_
  · rintro ⟨vs, k, zs⟩ i x t tx u h tk own hx ⟨hP, hf⟩ hoff F1 N1
    dsimp only [adN, List.cons_append, List.nil_append] at hP hf F1 N1 ⊢
    have hx0 := hR.dig.get hx
    have hi : i < xs.length := by
      rcases Nat.lt_or_ge i xs.length with h | h
      · exact h
      · rw [List.getElem?_eq_none h] at hx; cases hx
    clear hS
    k_steps
    rename Fr _ _ _ _ => lF
    rename News _ _ _ _ => lN1
    refine Hold.out ?_
    with_reducible apply For_pair3F
    case _F => with_unfolding_all exact lF
    case hh => with_unfolding_all rfl
    case hxi => with_unfolding_all rfl
    case hxc => with_unfolding_all rfl
    case hp => with_unfolding_all rfl
    case hs => (intro _; with_unfolding_all rfl)
    k_steps
    rename PairSrcL _ _ _ _ _ _ _ _ _ _ _ _ => hS
    refine Hold.out ?_
    have hap : ∀ p ∈ own, p.1 ≠ adN lN1 := fun p hp => hoff p hp _ (.head _)
    with_unfolding_all refine m_pairs (σ := Int × Tok × List Value × Nat × List Int) (fun c => (adN lN1, listOf c.2.2.1.toArray c.2.2.2.1) :: own) (fun c => [(Str.ofString "carry", .int c.1 c.2.1)]) [Str.ofString "spot", Str.ofString "other"] (fun j c => MulIn (2 ^ W.toNat) i x (xs.length + ys.length) ys zs j c.2.2.2.2 c.1 ∧ IntsAre c.2.2.1 c.2.2.2.2) (0, ?t0, vs, k, zs) hS rfl (fun _ => rfl) ?kk ⟨.start (by omega) hP, hf⟩ ?_ ?_
    case kk => kst_all
    · rintro ⟨c, tc, vs2, k2, zs2⟩ j y t2 ty u2 h2 tk2 own2 hy ⟨hP2, hf2⟩ hoff2 F2 N2
      dsimp only [adN, List.cons_append, List.nil_append] at hP2 hf2 F2 N2 hap ⊢
      have hy0 := hR2.dig.get hy
      have hj : j < ys.length := by
        rcases Nat.lt_or_ge j ys.length with h | h
        · exact h
        · rw [List.getElem?_eq_none h] at hy; cases hy
      have hap2 : ∀ p ∈ own ++ own2, p.1 ≠ adN lN1 := fun p hp => (List.mem_append.mp hp).elim (hap p) fun h => hoff2 p h _ (.head _)
      dsimp only [adN] at hap2
      have hl2 := hP2.len
      have hlf := hf2.length
      clear hS
      k_steps
      have e0 : ((i : Int) + (j : Int)).toNat = i + j := by omega
      rename News _ _ _ _ => nE
      rename IntsAre (vs2.set _ _) _ => hI3
      simp only [Int.one_mul, kbt_mask, e0] at nE hI3
      have e2 : (c + (zs2.getD (i + j) 0 + x * y)).fdiv (2 ^ W.toNat) = (c + (zs2.getD (i + j) 0 + x * y)) / 2 ^ W.toNat := Int.fdiv_eq_ediv_of_nonneg _ (by omega)
      refine p_end ((c + (zs2.getD (i + j) 0 + x * y)) / 2 ^ W.toNat, ?t1, vs2.set (i + j) _, k2, zs2.set (i + j) ((c + (zs2.getD (i + j) 0 + x * y)) % 2 ^ W.toNat)) (by assumption) nE (fun p hp => hp) ?kk1 ?sm ⟨hP2.step (by omega) hx0.1 hx0.2 hy hy0.1 hy0.2 (by omega) rfl, hI3⟩
      case kk1 => simp only [e0]; rw [← e2]; kst_all
      case sm => intro z h2 h3; have h4 := h3; simp only [List.forall_mem_cons, List.not_mem_nil, false_implies, implies_true, and_true, ne_eq] at h2; simp only [List.contains_cons, List.contains_nil, Bool.or_false, Bool.or_eq_false_iff, beq_eq_false_iff_ne, ne_eq] at h4; simp [kstB, h2, h3, h4]
    · rintro ⟨c, tc, vs2, k2, zs2⟩ u2 h2 tk2 ⟨hP2, hf2⟩ F2 N2
      dsimp only [adN, List.cons_append, List.nil_append] at hP2 hf2 F2 N2 hap ⊢
      have hl2 := hP2.len
      have hlf := hf2.length
      clear hS
      k_steps
      have e0 : ((i : Int) + (ys.length : Int)).toNat = i + ys.length := by omega
      rename News _ _ _ _ => nE
      rename IntsAre (vs2.set _ _) _ => hI3
      simp only [e0] at nE hI3
      refine p_end (vs2.set (i + ys.length) _, k2, zs2.set (i + ys.length) c) (by assumption) nE (fun p hp => hp) (fun _ hp => nomatch hp) ?sm2 ⟨MulIn.fin (by omega) hP hP2 hx hi, hI3⟩
      case sm2 => intro z h2 h3; have h4 := h3; simp only [List.contains_cons, List.contains_nil, Bool.or_false, Bool.or_eq_false_iff, beq_eq_false_iff_ne, ne_eq] at h4; simp [kstB, h3, h4]
  · rintro ⟨vs, k, zs⟩ u h tk ⟨hP, hf⟩ F1 N1
    dsimp only [adN, List.cons_append, List.nil_append] at hP hf F1 N1 ⊢
    have hv := hP.fin hR hR2
    have hvl : zs.length ≤ 300 := by have := hP.len; omega
    have hD := hP.dig
    clear hS
    k_steps
    obtain ⟨b1, b2, b3⟩ := back_news F N ‹Fr s.heap L' _ _› ‹News s.heap L' _ (_ :: _ :: [])›
    exact ret _ _ _ _ _ _ b1 b2 (by assumption) (by assumption) b3

local macro_rules | `(tactic| walk_at "binaryOp Mult ref int") => `(tactic| refine Hold.mk ?_)
theorem sieve_spec {n : Nat} {t : Tok} (hn1 : n ≤ 14) (hd : dp + 1 < recursionLimit) (hu : un + 8 < cLine)
    (ret : ∀ r vs k h' tk', Fr h₀ L h' m → News h₀ L h' ((r, listOf vs.toArray k) :: news) → IntsAre vs (sieveL n) → (∀ p ∈ news, p.1 ≠ r) → Q (.ref r) { s with heap := h', toks := tk' }) :
    wpAny (model MP w) (ktrTop dp un gd cn cs L a ccd cl outer) (call (.ref 88) [.int (n : Int) t]) Q E s := by
  revert X; delta MP; k_fill; intro X
  refine wpAny_call ?_
  k_dflt ktr_enter
  k_steps
  refine Hold.out ?_
  refine kbo_mul (bs := [true]) (by k_asm) (by k_asm) (by is_list) (.cons true .nil) (by omega) (by omega) (by simp only [List.length_cons, List.length_nil]; omega) ?_
  intro D hD FD ND lD bD nD s1 e1 e2 e3 e4
  k_lt lD
  simp only [List.length_cons, List.length_nil] at e3
  have hltD := allLt_out lD.2
  have en : ((n : Int) + 1).toNat = n + 1 := by omega
  rw [en] at ND bD
  have hst : (List.replicate (n + 1) [true]).flatten = List.replicate (n + 1) true := by simp
  rw [hst] at bD
  generalize (List.replicate (n + 1) [Value.bool true]).flatten = bv0 at ND bD
  generalize hbs0 : List.replicate (n + 1) true = bs0 at bD
  clear s1 e1 e2 e3 e4 nD hst
  k_steps
  rename Fr _ _ _ _ => lF
  rename News _ _ _ _ => lN
  rename IsRange _ _ _ _ _ _ _ _ => rgX
  rename _ < _ ∧ _ < _ ∧ AllLt _ news => hA
  have hlt := allLt_out hA.2.2
  have hDl := hA.1
  refine Hold.out ?_
  with_unfolding_all refine m_range (σ := List Value × Nat × List Int × List Value × Nat × List Bool) news (fun c => [(ad hlt, listOf c.1.toArray c.2.1), (D, listOf c.2.2.2.1.toArray c.2.2.2.2.1)]) (fun _ => []) [Str.ofString "one", Str.ofString "many"] (fun i c => (c.2.2.2.2.2, c.2.2.1) = sieveTo n i ∧ IntsAre c.1 c.2.2.1 ∧ LSm.BoolsAre c.2.2.2.1 c.2.2.2.2.2) ([], 0, [], bv0, 0, bs0) (by rfl) rgX (small_one (by omega) (by omega) (by omega) (by omega)) lF lN ?led (fun _ hp => nomatch hp) ⟨?st, .nil, bD⟩ ?_ ?_
  case led => intro p hp; simp only [List.mem_cons, List.mem_append, List.not_mem_nil, or_false] at hp ⊢; rcases hp with (h | h) | h <;> simp [h]
  case st =>
    show (bs0, ([] : List Int)) = sieveTo n 0
    rw [← hbs0]; rfl
  · clear lF lN rgX
    rintro ⟨vs, k, zs, bvs, kb, bs⟩ i kk t u h tk rest I rfl hi ⟨hP, hf, hb⟩ hfix hback ⟨oI, hoI⟩ hMI F1 N1
    dsimp only [ad, List.cons_append, List.nil_append] at hi hP hf hb hMI F1 N1 ⊢
    have hl1 := hMI _ (.head _)
    have hl2 := hMI _ (.tail _ (.head _))
    have hap := apart_rest hlt (fun h => hl1 (List.mem_singleton.mp h)) hback
    have hap2 := apart_rest hltD (fun h => hl2 (List.mem_singleton.mp h)) hback
    obtain ⟨hbl, hzl⟩ := sieveTo_len n i
    rw [← hP] at hbl hzl
    dsimp only at hbl hzl
    have hvl := hf.length
    have hbvl := hb.length
    k_steps
    · rename Fr _ _ _ _ => lF
      rename News _ _ _ _ => lN
      rename IsRange _ _ _ _ _ _ _ _ => rgX
      rename bs.getD _ false = true => hbt
      have e1 : (2 + (i : Int)) = ((i + 2 : Nat) : Int) := by omega
      have e2 : (2 + (i : Int)).toNat = i + 2 := by omega
      rw [e2] at hbt
      rw [e1] at rgX
      simp only [List.push_toArray] at lN
      refine Hold.out ?_
      with_unfolding_all refine m_rangeS (σ := List Value × List Bool) ((ad hlt, listOf (vs ++ [Value.int (2 + (i : Int)) t]).toArray (k + 1)) :: rest) (fun c => [(D, listOf c.1.toArray kb)]) (fun _ => []) [Str.ofString "many"] (fun j c => c.2 = crossL (i + 2) bs j ∧ LSm.BoolsAre c.1 c.2) (bvs, bs) (crossN n (i + 2)) (by rfl) rgX (small_pos (by omega) ?s1 ?s2 (by omega) (by omega) (by omega)) (crossN_size (by omega)) lF lN ?led2 (fun _ hp => nomatch hp) ⟨rfl, hb⟩ ?_ ?_
      case s1 => have := Int.mul_nonneg (show (0 : Int) ≤ ((i + 2 : Nat) : Int) by omega) (show (0 : Int) ≤ ((i + 2 : Nat) : Int) by omega); omega
      case s2 =>
        have : ((i + 2 : Nat) : Int) * ((i + 2 : Nat) : Int) ≤ 100 * 100 := Int.mul_le_mul (by omega) (by omega) (by omega) (by omega)
        omega
      case led2 => intro p hp; simp only [List.mem_cons, List.mem_append, List.not_mem_nil, or_false] at hp ⊢; rcases hp with h | h | h <;> simp [h]
      · clear lF lN rgX
        rintro ⟨bvs2, bs2⟩ j kk2 t2 u2 h2 tk2 rest2 I2 hkk hj ⟨hP2, hb2⟩ hfix2 hback2 ⟨oI2, hoI2⟩ hMI2 F2 N2
        dsimp only [ad, List.cons_append, List.nil_append] at hj hP2 hb2 hMI2 F2 N2 hfix2 hback2 ⊢
        have hj2 := crossN_lt (by omega) hj
        have hkn : kk2 = (((i + 2) * (i + 2) + j * (i + 2) : Nat) : Int) := by rw [hkk]; simp
        clear hkk
        generalize hmm : (i + 2) * (i + 2) + j * (i + 2) = mm at hj2 hkn
        subst hkn
        have hl3 := hMI2 _ (.head _)
        have hap3 := apart_rest' (ne_cons (Nat.ne_of_gt hDl) hap2) (fun h => hl3 (List.mem_singleton.mp h)) hback2
        have hbl2 : bs2.length = n + 1 := by rw [hP2, crossL_len, hbl]
        k_steps
        rename News _ _ _ _ => nE
        rename LSm.BoolsAre (bvs2.set _ _) _ => hB3
        have e3 : (mm : Int).toNat = mm := by omega
        rw [e3] at nE hB3
        refine m_end (bvs2.set mm (.bool false), bs2.set mm false) (by assumption) nE (fun p hp => hp) ?nI2 (fun _ hp => nomatch hp) ?sm2 ⟨?pp2, hB3⟩
        case nI2 => intro p hp; rw [List.mem_singleton.mp hp]; exact hl3
        case sm2 => intro z h2 h3; have h4 := h3; simp only [List.contains_cons, List.contains_nil, Bool.or_false, Bool.or_eq_false_iff, beq_eq_false_iff_ne, ne_eq] at h4; simp [kstB, h3, h4]
        case pp2 => show bs2.set mm false = crossL (i + 2) bs (j + 1); rw [crossL_succ, ← hP2, hmm]
      · clear lF lN rgX
        rintro ⟨bvs2, bs2⟩ u2 h2 tk2 ⟨hP2, hb2⟩ F2 N2
        dsimp only [ad, List.cons_append, List.nil_append] at hP2 hb2 F2 N2 ⊢
        k_steps
        rename News _ _ _ _ => nE
        refine m_end (vs ++ [Value.int (2 + (i : Int)) t], k + 1, zs ++ [((i + 2 : Nat) : Int)], bvs2, kb, bs2) (by assumption) nE ?hn3 ?nI3 (fun _ hp => nomatch hp) ?sm3 ⟨?pp3, hf.append (by rw [← e1]; exact .cons _ _ .nil), hb2⟩
        case hn3 => intro p hp; simp only [List.mem_cons, List.mem_append, List.not_mem_nil, or_false] at hp ⊢; rcases hp with (h | h) | h <;> simp [h]
        case nI3 => exact ne_cons hl1 (ne_cons hl2 (fun _ hp => nomatch hp))
        case sm3 => intro z h2 h3; have h4 := h3; simp only [List.contains_cons, List.contains_nil, Bool.or_false, Bool.or_eq_false_iff, beq_eq_false_iff_ne, ne_eq] at h4; simp [kstB, h3, h4]
        case pp3 =>
          show (bs2, zs ++ [((i + 2 : Nat) : Int)]) = sieveTo n (i + 1)
          rw [sieveTo_succ, ← hP]
          unfold sieveStep
          rw [if_pos hbt, hP2]
    · rename bs.getD _ false = false => hbt
      have e2 : (2 + (i : Int)).toNat = i + 2 := by omega
      rw [e2] at hbt
      refine m_end (vs, k, zs, bvs, kb, bs) F1 N1 (fun p hp => hp) ?nI4 (fun _ hp => nomatch hp) ?sm4 ⟨?pp4, hf, hb⟩
      case nI4 => exact ne_cons hl1 (ne_cons hl2 (fun _ hp => nomatch hp))
      case sm4 => intro z h2 h3; have h4 := h3; simp only [List.contains_cons, List.contains_nil, Bool.or_false, Bool.or_eq_false_iff, beq_eq_false_iff_ne, ne_eq] at h4; simp [kstB, h3, h4]
      case pp4 =>
        show (bs, zs) = sieveTo n (i + 1)
        rw [sieveTo_succ, ← hP]
        unfold sieveStep
        rw [if_neg (by rw [hbt]; decide)]
  · clear lF lN rgX
    rintro ⟨vs, k, zs, bvs, kb, bs⟩ u h tk ⟨hP, hf, hb⟩ F1 N1
    dsimp only [ad, List.cons_append, List.nil_append] at hP hf hb F1 N1 ⊢
    have en2 : ((n : Int) + 1 - 2).toNat = n - 1 := by omega
    rw [en2] at hP
    k_steps
    refine ret _ _ _ _ _ (by assumption) (news_head (by assumption) mem2) ?_ (allNe hlt)
    have : zs = sieveL n := congrArg Prod.snd hP
    rw [← this]; exact hf

local macro_rules | `(tactic| walk_at "exec While Compare cons nil") => `(tactic| refine Hold.mk ?_)
theorem need_spec {n : Int} {t : Tok} (hn : 0 ≤ n) (hd : dp + 1 < recursionLimit) (hu : un + 8 < cLine)
    (ret : ∀ h' tk', Fr h₀ L h' m → News h₀ L h' news → Q .none { s with heap := h', toks := tk' }) :
    wpAny (model MP w) (ktrTop dp un gd cn cs L a ccd cl outer) (call (.ref 95) [.int n t]) Q E s := by
  revert X; delta MP; k_fill; intro X
  refine wpAny_call ?_
  k_dflt ktr_enter
  k_steps
  exact ret _ _ (by assumption) (by assumption)
theorem facexp_spec {n pr : Nat} {t tp : Tok} (hn : n ≤ 14) (hp : 2 ≤ pr) (hp' : pr ≤ 14) (hd : dp + 1 < recursionLimit) (hu : un + 8 < cLine)
    (ret : ∀ t' h' tk', Fr h₀ L h' m → News h₀ L h' news → Q (.int (facE n pr : Nat) t') { s with heap := h', toks := tk' }) :
    wpAny (model MP w) (ktrTop dp un gd cn cs L a ccd cl outer) (call (.ref 156) [.int (n : Int) t, .int (pr : Int) tp]) Q E s := by
  revert X; delta MP; k_fill; intro X
  refine wpAny_call ?_
  k_dflt ktr_enter
  k_steps
  rename Fr _ _ _ _ => lF
  rename News _ _ _ _ => lN
  refine Hold.out ?_
  with_unfolding_all refine ksw_while (σ := Nat × Tok × Nat × Tok) (fun _ => news) (fun c => [(Str.ofString "n", .int (c.1 : Int) c.2.1), (Str.ofString "found", .int (c.2.2.1 : Int) c.2.2.2)]) (fun _ => True) [] (fun c => FacInv n pr c.1 c.2.2.1) (fun c => c.1) (n, t, 0, ?t0) lF lN trivial ?kk .start ?_
  case kk => kst_all
  clear lF lN
  rintro ⟨x, tx, f, tf⟩ u h tk - hx F1 N1
  dsimp only at hx F1 N1 ⊢
  have hx14 := hx.le
  k_steps
  · rename News _ _ _ _ => nE
    rename (0 : Int) < _ => h0
    have e : (x : Int).fdiv (pr : Int) = ((x / pr : Nat) : Int) := by rw [Int.fdiv_eq_ediv_of_nonneg _ (by omega)]; simp
    have hlt : x / pr < x := Nat.div_lt_self (by omega) (by omega)
    refine ksw_end (x / pr, ?t1, f + x / pr, ?t2) (by assumption) nE (fun p hp => hp) trivial ?kk1 ?sm1 (hx.step (by omega) (by omega)) hlt
    case kk1 => dsimp only; rw [Int.natCast_add, ← e]; kst_all
    case sm1 => intro z h2 h3; simp only [List.forall_mem_cons, List.not_mem_nil, false_implies, implies_true, and_true, ne_eq] at h2; simp [kstB, h2]
  · rename ¬ (0 : Int) < _ => h0
    have : x = 0 := by omega
    subst this
    rw [← hx.fin] at ret
    exact ret _ _ _ (by assumption) (by assumption)
theorem swexp_spec {n pr : Nat} {t tp : Tok} (hn : n ≤ 14) (hp : 2 ≤ pr) (hp' : pr ≤ 14) (hd : dp + 1 < recursionLimit) (hu : un + 8 < cLine)
    (ret : ∀ t' h' tk', Fr h₀ L h' m → News h₀ L h' news → Q (.int (swE n pr : Nat) t') { s with heap := h', toks := tk' }) :
    wpAny (model MP w) (ktrTop dp un gd cn cs L a ccd cl outer) (call (.ref 123) [.int (n : Int) t, .int (pr : Int) tp]) Q E s := by
  revert X; delta MP; k_fill; intro X
  refine wpAny_call ?_
  k_dflt ktr_enter
  have e0 : (n : Int).fdiv (pr : Int) = ((n / pr : Nat) : Int) := by rw [Int.fdiv_eq_ediv_of_nonneg _ (by omega)]; simp
  have hnp : n / pr ≤ n := Nat.div_le_self _ _
  k_steps
  rename Fr _ _ _ _ => lF
  rename News _ _ _ _ => lN
  rw [e0] at lF
  refine Hold.out ?_
  with_unfolding_all refine ksw_while (σ := Nat × Tok × Nat × Tok) (fun _ => news) (fun c => [(Str.ofString "rest", .int (c.1 : Int) c.2.1), (Str.ofString "found", .int (c.2.2.1 : Int) c.2.2.2)]) (fun _ => True) [] (fun c => SwInv n pr c.1 c.2.2.1) (fun c => c.1) (n / pr, ?t0, 0, ?t3) lF lN.tail' trivial ?kk (.start hnp) ?_
  case kk => kst_all
  clear lF lN
  rintro ⟨x, tx, f, tf⟩ u h tk - hx F1 N1
  dsimp only at hx F1 N1 ⊢
  have hx14 := hx.le
  k_steps
  · rename News _ _ _ _ => nE
    rename (0 : Int) < _ => h0
    have e : (x : Int).fdiv (pr : Int) = ((x / pr : Nat) : Int) := by rw [Int.fdiv_eq_ediv_of_nonneg _ (by omega)]; simp
    have e2 : (x : Int).fmod 2 = ((x % 2 : Nat) : Int) := by rw [Int.fmod_eq_emod_of_nonneg _ (by omega)]; simp
    have hlt : x / pr < x := Nat.div_lt_self (by omega) (by omega)
    refine ksw_end (x / pr, ?t1, f + x % 2, ?t2) (by assumption) nE (fun p hp => hp) trivial ?kk1 ?sm1 (hx.step (by omega) (by omega)) hlt
    case kk1 => dsimp only; rw [Int.natCast_add, ← e, ← e2]; kst_all
    case sm1 => intro z h2 h3; simp only [List.forall_mem_cons, List.not_mem_nil, false_implies, implies_true, and_true, ne_eq] at h2; simp [kstB, h2]
  · rename ¬ (0 : Int) < _ => h0
    have : x = 0 := by omega
    subst this
    rw [← hx.fin] at ret
    exact ret _ _ _ (by assumption) (by assumption)

local macro_rules | `(tactic| walk_at "call ref") => `(tactic| (k_here; (with_reducible show wpAny _ _ (call (Value.ref 53) _) _ _ _); k_dflt (refine' natof_spec _ _ _ _ _ _ _ _ _ _ _ _ _; walk_at "z0"); walk_at "z9"))
local macro_rules | `(tactic| walk_at "call ref") => `(tactic| (k_here; (with_reducible show wpAny _ _ (call (Value.ref 177) _) _ _ _); k_dflt (refine' mul_spec _ _ _ _ _ _ _ _ _ _ _ _ _ _ _ _ _ _ _; walk_at "z0"); walk_at "z9"))
local macro_rules | `(tactic| walk_at "call ref") => `(tactic| k_extra "rec")
omit B F X N T hk in
/-- product_of_counts: for rows of at most k counts -/
theorem prodc_spec (len : Nat) : ∀ {w : World} {p : Program} {loose : List Str} {mean : ExcName → Option Value} {mg mb : Str → Option Value} {dp un : Nat} {gd : Option (List Code)} {cn : Str} {cs : Scope} {a : Addr} {ccd : Value} {cl : List (Str × Addr)} {outer : List Env} {A₀ : Around} {base h₀ : Heap} {L : Addr} {m : Str → Option Value} {news : List (Addr × Obj)} {s : Shared} {Q E : Value → Shared → Prop}
  (B : Below A₀ base outer h₀) (F : Fr h₀ L s.heap m) (X : (hd.heap_39 w.params).In h₀) (N : News h₀ L s.heap news) (T : Top p loose mean mg mb h₀) (hk : cs.kind = .function)
  {la : Addr} {va : List Value} {ka : Nat} {ns : List Int} {W : Int} {tw : Tok} (hm : (la, listOf va.toArray ka) ∈ news) (hI : IntsAre va ns) (hl : ns.length ≤ len) (hl2 : len ≤ 30) (hpos : ∀ x ∈ ns, 1 ≤ x) (hP : prodL ns < 2 ^ 40) (hW : 3 ≤ W) (hW' : W ≤ 9)
  (hd : dp + 5 + len < recursionLimit) (hu : un + 50 + 8 * len < cLine) (ret : RetR h₀ L m news s Q (2 ^ W.toNat) (prodL ns)),
    wpAny (model MP w) (ktrTop dp un gd cn cs L a ccd cl outer) (call (.ref 102) [.ref la, .int W tw, .ref 177]) Q E s := by
  induction len using Nat.strongRecOn with
  | ind len IH =>
  intro w p loose mean mg mb dp un gd cn cs a ccd cl outer A₀ base h₀ L m news s Q E B F X N T hk la va ka ns W tw hm hI hl hl2 hpos hP hW hW' hd hu ret
  revert X; delta MP; k_fill; intro X
  refine wpAny_call ?_
  k_dflt ktr_enter
  have hlen := hI.length
  obtain ⟨hB, hB'⟩ := pw hW hW'
  have hq0 : 0 ≤ ((ns.length : Int)).fdiv 2 := by rw [Int.fdiv_eq_ediv_of_nonneg _ (by omega)]; omega
  have hq1 : (((ns.length : Int)).fdiv 2).toNat = ns.length / 2 := by rw [Int.fdiv_eq_ediv_of_nonneg _ (by omega)]; omega
  have hp1 : ∀ x ∈ ns.take (((ns.length : Int)).fdiv 2).toNat, 1 ≤ x := fun x hx => hpos x (List.mem_of_mem_take hx)
  have hp2 : ∀ x ∈ ns.drop (((ns.length : Int)).fdiv 2).toNat, 1 ≤ x := fun x hx => hpos x (List.mem_of_mem_drop hx)
  obtain ⟨hs0, hs1, hs2⟩ := prodL_split (((ns.length : Int)).fdiv 2).toNat hpos
  have hP1 : prodL (ns.take (((ns.length : Int)).fdiv 2).toNat) < 2 ^ 40 := by omega
  have hP2 : prodL (ns.drop (((ns.length : Int)).fdiv 2).toNat) < 2 ^ 40 := by omega
  have hl3 : 2 ≤ ns.length → (ns.take (((ns.length : Int)).fdiv 2).toNat).length ≤ len - 1 := by rw [hq1, List.length_take]; omega
  have hl4 : 2 ≤ ns.length → (ns.drop (((ns.length : Int)).fdiv 2).toNat).length ≤ len - 1 := by rw [hq1, List.length_drop]; omega
  have hone : ns.length = 1 → prodL ns = ns.getD (Int.toNat 0) 0 ∧ 1 ≤ prodL ns := by
    intro h
    match ns, h with
    | [x], _ => exact ⟨by simp [prodL], prodL_pos hpos⟩
  k_with "rec" =>
    (with_reducible show wpAny _ _ (call (Value.ref 102) _) _ _ _)
    k_dflt (refine' IH (len - 1) (by omega) (by k_asm) (by k_asm) (by k_asm) (by k_asm) (by k_asm) (by exact rfl) (by k_mem) (by assumption) (by omega) (by omega) (by assumption) (by assumption) hW hW' (by ktr_room) (by ktr_units) _)
    intro r9 vs9 k9 zs9 h9 tk9 F9 N9 hI9 hR9 hlt9
    try dsimp only
    try k_fold
  k_steps
  · refine ret _ [_] _ [1] _ _ (by assumption) (by assumption) (.cons _ _ .nil) ?_ (allNe (by assumption))
    have : ns = [] := List.eq_nil_of_length_eq_zero (by omega)
    subst this
    exact Rep.one (by omega)
  · rw [(hone (by omega)).1] at ret
    exact ret _ _ _ _ _ _ (by assumption) (by assumption) (by assumption) (by assumption) (by assumption)
  · rw [← hs0] at ret
    refine ret _ _ _ _ _ _ (by assumption) (news_head (by assumption) mem5) (by assumption) (by assumption) (ne_drop (by assumption) mem5)

end
end Mine
end
section
theorem Mine.w_off4 : True := by
  w_top off
  exact trivial
open PySem PySem.W PyProof.Rows
set_option maxRecDepth 100000
set_option maxHeartbeats 8000000
namespace Mine
local macro_rules | `(tactic| k_mem) => `(tactic| assumption)
local macro_rules | `(tactic| walk_at "MPost") => `(tactic| dsimp only [MPost])
local macro_rules | `(tactic| is_list) => `(tactic| exact News.isList (by with_reducible assumption) (by k_mem))
local macro_rules | `(tactic| k_all) => `(tactic| first | assumption | (refine allNe ?_; assumption) | (refine allNe (allLt_out ?_); assumption) | (refine allNe (allLt_out (And.right ?_)); assumption) | fail "no apartness")
local macro_rules | `(tactic| size_fits) => `(tactic| ((simp only [List.size_toArray, sizeLine_eq, List.length_append, List.length_cons, List.length_nil]); omega))
local macro_rules | `(tactic| walk_at "pyIter ref") => `(tactic| refine Hold.mk ?_)
local macro_rules | `(tactic| walk_at "call ref") => `(tactic| refine Hold.mk ?_)
section
variable {w : World} {p : Program} {loose : List Str} {mean : ExcName → Option Value} {mg mb : Str → Option Value} {dp un : Nat} {gd : Option (List Code)} {cn : Str} {cs : Scope} {a : Addr} {ccd : Value} {cl : List (Str × Addr)} {outer : List Env} {A₀ : Around} {base h₀ : Heap} {L : Addr} {m : Str → Option Value} {news : List (Addr × Obj)} {s : Shared} {Q E : Value → Shared → Prop}
  (B : Below A₀ base outer h₀) (F : Fr h₀ L s.heap m) (X : (hd.heap_39 w.params).In h₀) (N : News h₀ L s.heap news) (T : Top p loose mean mg mb h₀) (hk : cs.kind = .function)
include B F X N T hk
local macro_rules | `(tactic| walk_at "call ref") => `(tactic| (k_here; (with_reducible show wpAny _ _ (call (Value.ref 53) _) _ _ _); k_dflt (refine' natof_spec _ _ _ _ _ _ _ _ _ _ _ _ _; walk_at "z0"); walk_at "z9"))
local macro_rules | `(tactic| walk_at "call ref") => `(tactic| (k_here; (with_reducible show wpAny _ _ (call (Value.ref 177) _) _ _ _); k_dflt (refine' mul_spec _ _ _ _ _ _ _ _ _ _ _ _ _ _ _ _ _ _ _; walk_at "z0"); walk_at "z9"))
local macro_rules | `(tactic| walk_at "exec While Compare cons nil") => `(tactic| refine Hold.mk ?_)
theorem power_spec {b W : Int} {e : Nat} {tb te tw : Tok} (hb : 1 ≤ b) (hb' : b ≤ 14) (he : e ≤ 14) (hP : b ^ e < 2 ^ 40) (hW : 3 ≤ W) (hW' : W ≤ 9) (hd : dp + 5 < recursionLimit) (hu : un + 50 < cLine)
    (ret : RetR h₀ L m news s Q (2 ^ W.toNat) (b ^ e)) :
    wpAny (model MP w) (ktrTop dp un gd cn cs L a ccd cl outer) (call (.ref 109) [.int b tb, .int (e : Int) te, .int W tw, .ref 177]) Q E s := by
  revert X; delta MP; k_fill; intro X
  refine wpAny_call ?_
  k_dflt ktr_enter
  obtain ⟨hB, hB'⟩ := pw hW hW'
  k_steps
  rename Fr _ _ _ _ => lF
  rename News _ _ _ _ => lN
  rename Rep _ _ b => hRb
  rename IntsAre _ _ => hIb
  rename ∀ p ∈ news, p.1 < _ => hlt
  refine Hold.out ?_
  with_unfolding_all refine ksw_while (σ := PSt) (fun c => (c.rs, listOf c.vs.toArray c.ks) :: (c.rf, listOf c.vf.toArray c.kf) :: news) (fun c => [(Str.ofString "many", .int (c.k : Int) c.tk), (Str.ofString "found", .ref c.rf), (Str.ofString "square", .ref c.rs)]) (fun _ => True) [] (fun c => IntsAre c.vf c.zf ∧ IntsAre c.vs c.zs ∧ Rep (2 ^ W.toNat) c.zf c.F ∧ Rep (2 ^ W.toNat) c.zs c.S ∧ PowInv (b ^ e) c.k c.F c.S ∧ c.k ≤ e ∧ (∀ p ∈ news, p.1 ≠ c.rf)) (fun c => c.k) ⟨e, te, ad hlt, [_], 0, [1], 1, _, _, _, _, b⟩ lF lN.tail' trivial ?kk ⟨.cons _ _ .nil, hIb, Rep.one (by omega), hRb, PowInv.start hb hb', Nat.le_refl _, allNe hlt⟩ ?_
  case kk => kst_all
  clear lF lN hRb hIb
  rintro ⟨k, tk0, rf, vf, kf, zf, Fv, rs, vs, ks, zs, Sv⟩ u h tk - ⟨hIf, hIs, hRf, hRs, hPI, hke, hrf⟩ F1 N1
  dsimp only at hIf hIs hRf hRs hPI hke hrf F1 N1 ⊢
  have hFl : Fv < 2 ^ 60 := by have := hPI.fle; omega
  have hSl : Sv < 2 ^ 60 := by have := hPI.sl; omega
  have hek : (k : Int).fdiv 2 = ((k / 2 : Nat) : Int) := by rw [Int.fdiv_eq_ediv_of_nonneg _ (by omega)]; simp
  have em : (k : Int).fmod 2 = ((k % 2 : Nat) : Int) := by rw [Int.fmod_eq_emod_of_nonneg _ (by omega)]; simp
  k_steps
  · rename News _ _ _ _ => nE
    have hk0 : 0 < k := by omega
    refine ksw_end (⟨k / 2, ?tka, _, _, _, _, Fv * Sv, _, _, _, _, Sv * Sv⟩ : PSt) (by assumption) (news_two nE mem3) (fun p hp => hp) trivial ?kka (by intro z h2 h3; dsimp only at h2; simp only [List.forall_mem_cons, List.not_mem_nil, false_implies, implies_true, and_true, ne_eq] at h2; simp [kstB, h2]) ⟨by assumption, by assumption, by assumption, by assumption, hPI.oddHalf (by omega) hP (by omega), by dsimp only; omega, ne_drop (by assumption) mem3⟩ (by dsimp only; omega)
    case kka => dsimp only; rw [← hek]; kst_all
  · rename News _ _ _ _ => nE
    have hk0 : 0 < k := by omega
    refine ksw_end (⟨k / 2, ?tkb, _, _, _, _, Fv * Sv, _, _, _, _, Sv⟩ : PSt) (by assumption) (news_21 nE) (fun p hp => hp) trivial ?kkb (by intro z h2 h3; dsimp only at h2; simp only [List.forall_mem_cons, List.not_mem_nil, false_implies, implies_true, and_true, ne_eq] at h2; simp [kstB, h2]) ⟨by assumption, by assumption, by assumption, by assumption, hPI.oddStop (by omega) (by omega), by dsimp only; omega, ne_drop (by assumption) mem3⟩ (by dsimp only; omega)
    case kkb => dsimp only; rw [← hek]; kst_all
  · rename News _ _ _ _ => nE
    have hk0 : 0 < k := by omega
    refine ksw_end (⟨k / 2, ?tkc, _, _, _, _, Fv, _, _, _, _, Sv * Sv⟩ : PSt) (by assumption) (news_13 nE) (fun p hp => hp) trivial ?kkc (by intro z h2 h3; dsimp only at h2; simp only [List.forall_mem_cons, List.not_mem_nil, false_implies, implies_true, and_true, ne_eq] at h2; simp [kstB, h2]) ⟨by assumption, by assumption, by assumption, by assumption, (hPI.half (by omega) hP).resolve_right (by omega), by dsimp only; omega, hrf⟩ (by dsimp only; omega)
    case kkc => dsimp only; rw [← hek]; kst_all
  · have : k = 0 := by omega
    subst this
    rw [← hPI.stop] at ret
    exact ret _ _ _ _ _ _ (by assumption) ((by assumption : News _ _ _ (_ :: _ :: news)).tail') hIf hRf hrf

end
end Mine
end
section
theorem Mine.w_off5 : True := by
  w_top off
  exact trivial
open PySem PySem.W PyProof.Rows
set_option maxRecDepth 100000
set_option maxHeartbeats 8000000
namespace Mine
local macro_rules | `(tactic| k_mem) => `(tactic| assumption)
local macro_rules | `(tactic| walk_at "MPost") => `(tactic| dsimp only [MPost])
local macro_rules | `(tactic| is_list) => `(tactic| exact News.isList (by with_reducible assumption) (by k_mem))
local macro_rules | `(tactic| k_all) => `(tactic| first | assumption | (refine allNe ?_; assumption) | (refine allNe (allLt_out ?_); assumption) | (refine allNe (allLt_out (And.right ?_)); assumption) | fail "no apartness")
local macro_rules | `(tactic| size_fits) => `(tactic| ((simp only [List.size_toArray, sizeLine_eq, List.length_append, List.length_cons, List.length_nil]); omega))
local macro_rules | `(tactic| walk_at "pyIter ref") => `(tactic| refine Hold.mk ?_)
local macro_rules | `(tactic| walk_at "call ref") => `(tactic| refine Hold.mk ?_)
section
variable {w : World} {p : Program} {loose : List Str} {mean : ExcName → Option Value} {mg mb : Str → Option Value} {dp un : Nat} {gd : Option (List Code)} {cn : Str} {cs : Scope} {a : Addr} {ccd : Value} {cl : List (Str × Addr)} {outer : List Env} {A₀ : Around} {base h₀ : Heap} {L : Addr} {m : Str → Option Value} {news : List (Addr × Obj)} {s : Shared} {Q E : Value → Shared → Prop}
  (B : Below A₀ base outer h₀) (F : Fr h₀ L s.heap m) (X : (hd.heap_39 w.params).In h₀) (N : News h₀ L s.heap news) (T : Top p loose mean mg mb h₀) (hk : cs.kind = .function)
include B F X N T hk
local macro_rules | `(tactic| walk_at "call ref") => `(tactic| (k_here; (with_reducible show wpAny _ _ (call (Value.ref 109) _) _ _ _); k_dflt (refine' power_spec _ _ _ _ _ _ _ _ _ _ _ _ _ _ _; walk_at "z0"); walk_at "z9"))
local macro_rules | `(tactic| walk_at "call ref") => `(tactic| (k_here; (with_reducible show wpAny _ _ (call (Value.ref 177) _) _ _ _); k_dflt (refine' mul_spec _ _ _ _ _ _ _ _ _ _ _ _ _ _ _ _ _ _ _; walk_at "z0"); walk_at "z9"))
local macro_rules | `(tactic| walk_at "call builtin:len") => `(tactic| (k_here; (with_reducible show wpAny _ _ (call (Value.builtin "len") [Value.ref _]) _ _ _); k_dflt (refine' KM.len_K ?N ?m ?s ?f ?_; (case N => k_asm); (case m => assumption); (case s => exact size_self); (case f => omega))))
local macro_rules | `(tactic| walk_at "subscriptTail Name Slice ref ref") => `(tactic| (k_here; (with_reducible show wpAny _ _ (subscriptTail _ (PySem.Expr.Slice _ _ none _) (Value.ref _) (Value.ref _)) _ _ _); k_dflt (refine' kms_slice_lit ?F ?N ?l ?p ?q ?e ?_ ?s ?t ?z; (case F => k_asm); (case N => k_asm); (case l => is_list); (case p => kmk_part); (case q => kmk_part); (case e => first | exact pick_to (by omega) | exact pick_from (by omega)); (case s => with_unfolding_all rfl); (case t => kmk_pure); (case z => size_fits)); intro D' h' F' N' l1; (try k_lt l1)))
local macro_rules | `(tactic| walk_at "call ref") => `(tactic| k_extra "rec")
omit B F X N T hk in
theorem prodp_spec (len : Nat) : ∀ {w : World} {p : Program} {loose : List Str} {mean : ExcName → Option Value} {mg mb : Str → Option Value} {dp un : Nat} {gd : Option (List Code)} {cn : Str} {cs : Scope} {a : Addr} {ccd : Value} {cl : List (Str × Addr)} {outer : List Env} {A₀ : Around} {base h₀ : Heap} {L : Addr} {m : Str → Option Value} {news : List (Addr × Obj)} {s : Shared} {Q E : Value → Shared → Prop}
  (B : Below A₀ base outer h₀) (F : Fr h₀ L s.heap m) (X : (hd.heap_39 w.params).In h₀) (N : News h₀ L s.heap news) (T : Top p loose mean mg mb h₀) (hk : cs.kind = .function)
  {la : Addr} {va : List Value} {ka : Nat} {ps : List (Int × Nat)} {W : Int} {tw : Tok} (hm : (la, listOf va.toArray ka) ∈ news) (hI : PairsIn news va ps) (hl : ps.length ≤ len) (hl2 : len ≤ 30) (hpos : ∀ x ∈ ps, 1 ≤ x.1) (hps : ∀ x ∈ ps, x.1 ≤ 14 ∧ x.2 ≤ 14) (hP : prodP ps < 2 ^ 40) (hW : 3 ≤ W) (hW' : W ≤ 9)
  (hd : dp + 10 + len < recursionLimit) (hu : un + 80 + 8 * len < cLine) (ret : RetR h₀ L m news s Q (2 ^ W.toNat) (prodP ps)),
    wpAny (model MP w) (ktrTop dp un gd cn cs L a ccd cl outer) (call (.ref 116) [.ref la, .int W tw, .ref 177]) Q E s := by
  induction len using Nat.strongRecOn with
  | ind len IH =>
  intro w p loose mean mg mb dp un gd cn cs a ccd cl outer A₀ base h₀ L m news s Q E B F X N T hk la va ka ps W tw hm hI hl hl2 hpos hps hP hW hW' hd hu ret
  revert X; delta MP; k_fill; intro X
  refine wpAny_call ?_
  k_dflt ktr_enter
  have hlen := hI.length
  obtain ⟨hB, hB'⟩ := pw hW hW'
  by_cases h2 : 2 ≤ va.length
  · have hq0 : 0 ≤ ((va.length : Int)).fdiv 2 := by rw [Int.fdiv_eq_ediv_of_nonneg _ (by omega)]; omega
    have hq1 : (((va.length : Int)).fdiv 2).toNat = va.length / 2 := by rw [Int.fdiv_eq_ediv_of_nonneg _ (by omega)]; omega
    have hI1 := hI.take (((va.length : Int)).fdiv 2).toNat
    have hI2 := hI.drop (((va.length : Int)).fdiv 2).toNat
    have hp1 : ∀ x ∈ ps.take (((va.length : Int)).fdiv 2).toNat, 1 ≤ x.1 := fun x hx => hpos x (List.mem_of_mem_take hx)
    have hp2 : ∀ x ∈ ps.drop (((va.length : Int)).fdiv 2).toNat, 1 ≤ x.1 := fun x hx => hpos x (List.mem_of_mem_drop hx)
    have hp3 : ∀ x ∈ ps.take (((va.length : Int)).fdiv 2).toNat, x.1 ≤ 14 ∧ x.2 ≤ 14 := fun x hx => hps x (List.mem_of_mem_take hx)
    have hp4 : ∀ x ∈ ps.drop (((va.length : Int)).fdiv 2).toNat, x.1 ≤ 14 ∧ x.2 ≤ 14 := fun x hx => hps x (List.mem_of_mem_drop hx)
    obtain ⟨hs0, hs1, hs2⟩ := prodP_split (((va.length : Int)).fdiv 2).toNat hpos
    have hP1 : prodP (ps.take (((va.length : Int)).fdiv 2).toNat) < 2 ^ 40 := by omega
    have hP2 : prodP (ps.drop (((va.length : Int)).fdiv 2).toNat) < 2 ^ 40 := by omega
    have hl3 : (ps.take (((va.length : Int)).fdiv 2).toNat).length ≤ len - 1 := by rw [hq1, List.length_take]; omega
    have hl4 : (ps.drop (((va.length : Int)).fdiv 2).toNat).length ≤ len - 1 := by rw [hq1, List.length_drop]; omega
    k_with "rec" =>
      (with_reducible show wpAny _ _ (call (Value.ref 116) _) _ _ _)
      k_dflt (refine' IH (len - 1) (by omega) (by k_asm) (by k_asm) (by k_asm) (by k_asm) (by k_asm) (by exact rfl) (by k_mem) (by first | exact hI1.mono (fun q hq => by repeat (first | exact hq | refine List.mem_cons_of_mem _ ?_)) | exact hI2.mono (fun q hq => by repeat (first | exact hq | refine List.mem_cons_of_mem _ ?_))) (by assumption) (by omega) (by assumption) (by assumption) (by assumption) hW hW' (by ktr_room) (by ktr_units) _)
      intro r9 vs9 k9 zs9 h9 tk9 F9 N9 hI9 hR9 hlt9
      try dsimp only
      try k_fold
    k_steps
    all_goals try (exfalso; omega; done)
    · rw [← hs0] at ret
      exact ret _ _ _ _ _ _ (by assumption) (news_head (by assumption) mem5) (by assumption) (by assumption) (ne_drop (by assumption) mem5)
  · cases hI with
    | nil =>
      k_steps
      exact ret _ [_] _ [1] _ _ (by assumption) (by assumption) (.cons _ _ .nil) (Rep.one (by omega)) (allNe (by assumption))
    | cons hm1 hI' =>
      cases hI' with
      | nil =>
        rename_i ta pa ea t1 t2 nn
        have hpa := hpos _ (.head _)
        obtain ⟨hpb, heb⟩ := hps _ (.head _)
        dsimp only at hpa hpb heb
        have e1 : prodP [(pa, ea)] = pa ^ ea := by simp [prodP]
        rw [e1] at hP ret
        k_steps
        all_goals try (exfalso; rename ((List.length _ : Nat) : Int) = 0 => h; simp at h; done)
        all_goals try (exfalso; rename ¬ ((List.length _ : Nat) : Int) = 1 => h; simp at h; done)
        all_goals exact ret _ _ _ _ _ _ (by assumption) (by assumption) (by assumption) (by assumption) (by assumption)
      | cons _ _ => exact absurd (by simp) h2

theorem facexp_use {n pr : Int} {t tp : Tok} (hn0 : 0 ≤ n) (hn : n ≤ 14) (hp : 2 ≤ pr) (hp' : pr ≤ 14) (hd : dp + 1 < recursionLimit) (hu : un + 8 < cLine)
    (ret : ∀ t' h' tk', Fr h₀ L h' m → News h₀ L h' news → Q (.int (facE n.toNat pr.toNat : Nat) t') { s with heap := h', toks := tk' }) :
    wpAny (model MP w) (ktrTop dp un gd cn cs L a ccd cl outer) (call (.ref 156) [.int n t, .int pr tp]) Q E s := by
  obtain ⟨N', rfl⟩ := Int.eq_ofNat_of_zero_le hn0
  obtain ⟨P', rfl⟩ := Int.eq_ofNat_of_zero_le (show 0 ≤ pr by omega)
  exact facexp_spec B F X N T hk (by omega) (by omega) (by omega) hd hu ret
theorem swexp_use {n pr : Int} {t tp : Tok} (hn0 : 0 ≤ n) (hn : n ≤ 14) (hp : 2 ≤ pr) (hp' : pr ≤ 14) (hd : dp + 1 < recursionLimit) (hu : un + 8 < cLine)
    (ret : ∀ t' h' tk', Fr h₀ L h' m → News h₀ L h' news → Q (.int (swE n.toNat pr.toNat : Nat) t') { s with heap := h', toks := tk' }) :
    wpAny (model MP w) (ktrTop dp un gd cn cs L a ccd cl outer) (call (.ref 123) [.int n t, .int pr tp]) Q E s := by
  obtain ⟨N', rfl⟩ := Int.eq_ofNat_of_zero_le hn0
  obtain ⟨P', rfl⟩ := Int.eq_ofNat_of_zero_le (show 0 ≤ pr by omega)
  exact swexp_spec B F X N T hk (by omega) (by omega) (by omega) hd hu ret
theorem sieve_use {n : Int} {t : Tok} (hn0 : 0 ≤ n) (hn1 : n ≤ 14) (hd : dp + 1 < recursionLimit) (hu : un + 8 < cLine)
    (ret : ∀ r vs k h' tk', Fr h₀ L h' m → News h₀ L h' ((r, listOf vs.toArray k) :: news) → IntsAre vs (sieveL n.toNat) → (∀ p ∈ news, p.1 ≠ r) → Q (.ref r) { s with heap := h', toks := tk' }) :
    wpAny (model MP w) (ktrTop dp un gd cn cs L a ccd cl outer) (call (.ref 88) [.int n t]) Q E s := by
  obtain ⟨N', rfl⟩ := Int.eq_ofNat_of_zero_le hn0
  exact sieve_spec B F X N T hk (by omega) hd hu ret
theorem prodp_use {la : Addr} {va : List Value} {ka : Nat} {ps : List (Int × Nat)} {W : Int} {tw : Tok} (hm : (la, listOf va.toArray ka) ∈ news) (hI : PairsIn news va ps) (hl : ps.length ≤ 15) (hpos : ∀ x ∈ ps, 1 ≤ x.1) (hps : ∀ x ∈ ps, x.1 ≤ 14 ∧ x.2 ≤ 14) (hP : prodP ps < 2 ^ 40) (hW : 3 ≤ W) (hW' : W ≤ 9)
  (hd : dp + 30 < recursionLimit) (hu : un + 250 < cLine) (ret : RetR h₀ L m news s Q (2 ^ W.toNat) (prodP ps)) :
    wpAny (model MP w) (ktrTop dp un gd cn cs L a ccd cl outer) (call (.ref 116) [.ref la, .int W tw, .ref 177]) Q E s :=
  prodp_spec 15 B F X N T hk hm hI hl (by omega) hpos hps hP hW hW' (by omega) (by omega) ret
theorem prodc_use {la : Addr} {va : List Value} {ka : Nat} {ns : List Int} {W : Int} {tw : Tok} (hm : (la, listOf va.toArray ka) ∈ news) (hI : IntsAre va ns) (hl : ns.length ≤ 15) (hpos : ∀ x ∈ ns, 1 ≤ x) (hP : prodL ns < 2 ^ 40) (hW : 3 ≤ W) (hW' : W ≤ 9)
  (hd : dp + 30 < recursionLimit) (hu : un + 250 < cLine) (ret : RetR h₀ L m news s Q (2 ^ W.toNat) (prodL ns)) :
    wpAny (model MP w) (ktrTop dp un gd cn cs L a ccd cl outer) (call (.ref 102) [.ref la, .int W tw, .ref 177]) Q E s :=
  prodc_spec 15 B F X N T hk hm hI hl (by omega) hpos hP hW hW' (by omega) (by omega) ret

local macro_rules | `(tactic| walk_at "call ref") => `(tactic| (k_here; (with_reducible show wpAny _ _ (call (Value.ref 95) _) _ _ _); k_dflt (refine' need_spec _ _ _ _ _ _ _ _ _ _; walk_at "z0"); walk_at "z9"))
local macro_rules | `(tactic| walk_at "call ref") => `(tactic| (k_here; (with_reducible show wpAny _ _ (call (Value.ref 88) _) _ _ _); k_dflt (refine' sieve_use _ _ _ _ _ _ _ _ _ _ _; walk_at "z0"); walk_at "z9"))
local macro_rules | `(tactic| walk_at "call ref") => `(tactic| (k_here; (with_reducible show wpAny _ _ (call (Value.ref 156) _) _ _ _); k_dflt (refine' facexp_use _ _ _ _ _ _ _ _ _ _ _ _ _; walk_at "z0"); walk_at "z9"))
local macro_rules | `(tactic| walk_at "call ref") => `(tactic| (k_here; (with_reducible show wpAny _ _ (call (Value.ref 116) _) _ _ _); k_dflt (refine' prodp_use _ _ _ _ _ _ _ _ _ _ _ _ _ _ _ _ _; walk_at "z0"); walk_at "z9"))
local macro_rules | `(tactic| walk_at "z1") => `(tactic| (with_reducible show Mine.PairsIn _ _ _); first | with_reducible assumption | exact Mine.PairsIn.mono (by with_reducible assumption) (fun q hq => by simp [hq]))
theorem binom_spec {n k W : Int} {tn tk0 tw : Tok} (hn0 : 0 ≤ n) (hn : n ≤ 14) (hk0 : 0 ≤ k) (hk1 : k ≤ 100) (hW : 3 ≤ W) (hW' : W ≤ 9) (hd : dp + 40 < recursionLimit) (hu : un + 300 < cLine)
    (ret : RetR h₀ L m news s Q (2 ^ W.toNat) (binI n.toNat k.toNat)) :
    wpAny (model MP w) (ktrTop dp un gd cn cs L a ccd cl outer) (call (.ref 163) [.int n tn, .int k tk0, .int W tw, .ref 177]) Q E s := by
  revert X; delta MP; k_fill; intro X
  refine wpAny_call ?_
  k_dflt ktr_enter
  k_steps
  · rename n < k => hnk
    refine ret _ [] _ [] _ _ (by assumption) (by assumption) .nil ?_ (allNe (by assumption))
    rw [binI, if_pos (by omega)]; exact Rep.nil
  rename ¬ n < k => hnk
  rename Fr _ _ _ _ => lF
  rename News _ _ _ _ => lN
  rename ∀ p ∈ news, p.1 < _ => hlt
  rename IntsAre _ (sieveL _) => hIs
  rename ∀ p ∈ _ :: news, p.1 ≠ _ => hne
  obtain ⟨hb1, hb2, hb3, hb4⟩ := bin_facts ⟨n.toNat, by omega⟩ ⟨k.toNat, by omega⟩ (by show k.toNat ≤ n.toNat; omega)
  dsimp only at hb1 hb2 hb3 hb4
  have hsl := sieve_len ⟨n.toNat, by omega⟩
  have hsv := sieve_facts ⟨n.toNat, by omega⟩
  dsimp only at hsv hsl
  refine Hold.out ?_
  with_unfolding_all refine m_list (σ := BSt) ((adN lN, oN lN) :: news) (fun c => (ad hlt, listOf c.vs.toArray c.k) :: c.led) (fun _ => []) [Str.ofString "prime", Str.ofString "many"] (fun i c => BInv news (ad hlt) (((sieveL n.toNat).take i).foldl (binStep n.toNat k.toNat) []) c) ⟨[], 0, [], []⟩ (by rfl) (.head _) lF lN ?led (fun _ hp => nomatch hp) ⟨rfl, .nil, fun _ hp => nomatch hp⟩ ?_ ?_
  case led => intro p hp; simp only [List.mem_cons, List.mem_append, List.not_mem_nil, or_false] at hp ⊢; rcases hp with h | h | h <;> simp [h]
  · clear lF
    rintro ⟨vs, kk, ps, led⟩ i v u h tk rest I hv ⟨hP, hPI, hoff⟩ hfix hback ⟨oI, hoI⟩ hMI F1 N1
    obtain ⟨x, tx, rfl, hx⟩ := hIs.at i v hv
    dsimp only [ad, adN, oN, List.cons_append, List.nil_append] at hP hPI hoff hMI F1 N1 hfix hback ⊢
    have hlI := hMI _ (.head _)
    obtain ⟨hx2, hx14⟩ := hsv x (List.mem_of_getElem? hx)
    have hap : ∀ p ∈ led ++ rest, p.1 ≠ ad hlt := fun p hp => (List.mem_append.mp hp).elim (hoff p) (apart_rest' (ne_cons (hne _ (.head _)).symm (allNe hlt)) (fun h => by
      rcases List.mem_cons.mp h with e | e
      · exact hlI e
      · exact hne _ (.head _) (List.mem_singleton.mp e)) hback p)
    dsimp only [ad] at hap
    have hvl : vs.length ≤ 100 := by
      have h1 := binFold_len n.toNat k.toNat ((sieveL n.toNat).take i) []
      rw [← hP, List.length_take, List.length_nil] at h1
      have h2 := hPI.length
      omega
    have hsub : (n - k).toNat = n.toNat - k.toNat := by omega
    have hE : ((facE n.toNat x.toNat : Nat) : Int) - ((facE k.toNat x.toNat : Nat) : Int) - ((facE (n - k).toNat x.toNat : Nat) : Int) = binE n.toNat k.toNat x := by unfold binE; rw [hsub]
    k_steps
    · rename News _ _ _ _ => nE
      rename _ < _ ∧ AllLt _ _ => hA
      rename (0 : Int) < _ => h0
      rw [hE] at h0
      simp only [hE, List.push_toArray] at nE
      have hIo := allLt_out hA.2 (I, oI) (List.mem_append_right _ hoI)
      have hc : (((binE n.toNat k.toNat x).toNat : Nat) : Int) = binE n.toNat k.toNat x := Int.toNat_of_nonneg (by omega)
      refine m_end (⟨vs ++ [.ref (adN nE)], kk + 1, ps ++ [(x, (binE n.toNat k.toNat x).toNat)], (adN nE, oN nE) :: led⟩ : BSt) (by assumption) nE ?hn1 ?nI1 (fun _ hp => nomatch hp) ?sm1 ⟨?e1, ?h1, ?o1⟩
      case hn1 => intro p hp; simp only [List.mem_cons, List.mem_append, List.not_mem_nil, or_false] at hp ⊢; rcases hp with (h | h | h) | h <;> simp [h]
      case nI1 => exact ne_cons hlI (ne_cons (Nat.ne_of_gt hIo) (fun p hp => hMI p (.tail _ hp)))
      case sm1 => intro z h2 h3; have h4 := h3; simp only [List.contains_cons, List.contains_nil, Bool.or_false, Bool.or_eq_false_iff, beq_eq_false_iff_ne, ne_eq] at h4; simp [kstB, h3, h4]
      case e1 => show ps ++ [(x, (binE n.toNat k.toNat x).toNat)] = _; rw [foldl_take_succ _ _ hx, ← hP, binStep, if_pos h0]
      case h1 => exact (hPI.mono mem2).snoc (t := tx) (t' := _) (n := 0) (by rw [hc]; exact .head _)
      case o1 => exact ne_cons (Nat.ne_of_gt hA.1) hoff
    · rename ¬ (0 : Int) < _ => h0
      rw [hE] at h0
      rename News _ _ _ _ => nE
      refine m_end (⟨vs, kk, ps, led⟩ : BSt) (by assumption) nE ?hn2 ?nI2 (fun _ hp => nomatch hp) ?sm2 ⟨?e2, hPI, hoff⟩
      case hn2 => intro p hp; exact hp
      case nI2 => exact hMI
      case sm2 => intro z h2 h3; have h4 := h3; simp only [List.contains_cons, List.contains_nil, Bool.or_false, Bool.or_eq_false_iff, beq_eq_false_iff_ne, ne_eq] at h4; simp [kstB, h3, h4]
      case e2 => show ps = _; rw [foldl_take_succ _ _ hx, ← hP, binStep, if_neg h0]
  · clear lF
    rintro ⟨vs, kk, ps, led⟩ u h tk ⟨hP, hPI, hoff⟩ F1 N1
    dsimp only [ad, adN, oN, List.cons_append, List.nil_append] at hP hPI hoff F1 N1 ⊢
    rw [hIs.length, List.take_length] at hP
    have hP' : ps = binP n.toNat k.toNat := hP
    have hpl : ps.length ≤ 15 := by rw [hP']; exact hb1
    have hpos : ∀ x ∈ ps, 1 ≤ x.1 := by rw [hP']; exact fun x hx => (hb2 x hx).1
    have hps : ∀ x ∈ ps, x.1 ≤ 14 ∧ x.2 ≤ 14 := by rw [hP']; exact fun x hx => (hb2 x hx).2
    have hpp : prodP ps < 2 ^ 40 := by rw [hP', hb3]; omega
    have he : binI n.toNat k.toNat = prodP ps := by rw [binI, if_neg (by omega), hP']
    rw [he] at ret
    k_steps
    exact ret _ _ _ _ _ _ (by assumption) (news_head (by assumption) (fun p hp => by simp [hp])) (by assumption) (by assumption) (ne_drop (by assumption) (fun p hp => by simp [hp]))

local macro_rules | `(tactic| walk_at "call ref") => `(tactic| (k_here; (with_reducible show wpAny _ _ (call (Value.ref 88) _) _ _ _); k_dflt (refine' sieve_use _ _ _ _ _ _ _ _ _ _ _; walk_at "z0"); walk_at "z9"))
local macro_rules | `(tactic| walk_at "call ref") => `(tactic| (k_here; (with_reducible show wpAny _ _ (call (Value.ref 123) _) _ _ _); k_dflt (refine' swexp_use _ _ _ _ _ _ _ _ _ _ _ _ _; walk_at "z0"); walk_at "z9"))
local macro_rules | `(tactic| walk_at "call ref") => `(tactic| (k_here; (with_reducible show wpAny _ _ (call (Value.ref 116) _) _ _ _); k_dflt (refine' prodp_use _ _ _ _ _ _ _ _ _ _ _ _ _ _ _ _ _; walk_at "z0"); walk_at "z9"))
local macro_rules | `(tactic| walk_at "z1") => `(tactic| (with_reducible show Mine.PairsIn _ _ _); first | with_reducible assumption | exact Mine.PairsIn.mono (by with_reducible assumption) (fun q hq => by simp [hq]))
local macro_rules | `(tactic| walk_at "exec Assign cons ListComp") => `(tactic| refine Hold.mk ?_)
local macro_rules | `(tactic| walk_at "eval ListComp") => `(tactic| refine Hold.mk ?_)
local macro_rules | `(tactic| walk_at "CompSrc") => `(tactic| refine Hold.mk ?_)
local macro_rules | `(tactic| walk_at "CompSrcT") => `(tactic| refine Hold.mk ?_)
local macro_rules | `(tactic| walk_at "CompEnd") => `(tactic| refine Hold.mk ?_)
theorem swing_spec {n W : Int} {tn tw : Tok} (hn0 : 0 ≤ n) (hn : n ≤ 14) (hW : 3 ≤ W) (hW' : W ≤ 9) (hd : dp + 40 < recursionLimit) (hu : un + 300 < cLine)
    (ret : RetR h₀ L m news s Q (2 ^ W.toNat) (prodP (swP n.toNat))) :
    wpAny (model MP w) (ktrTop dp un gd cn cs L a ccd cl outer) (call (.ref 128) [.int n tn, .int W tw, .ref 177]) Q E s := by
  revert X; delta MP; k_fill; intro X
  refine wpAny_call ?_
  k_dflt (refine' code_defC ?k1 ?k2 ?k3 ?k4 ?k5 ?kA ?kF ?kK ?k6 ?k7 ?k8 ?k9 ?kB ?kD ?_ ?c2 ?c3 ?c4; (case kA => exact rfl); (case kF => exact rfl); (case kK => assumption); (case k1 => k_asm); (case k2 => k_asm); (case k3 => k_asm); (case k4 => k_asm); (case k5 => k_asm); (case k6 => k_is); (case k7 => k_is); (case k8 => ktr_room); (case k9 => exact BindsTo.of_eq rfl); (case kB => exact rfl); (case kD => decide +kernel); (case c2 => exact rfl); (case c3 => exact rfl); (case c4 => exact rfl); k_whole; intro g' L' h' tk' cells' FG' F' N' Y' B' X' T' l1; k_cells Y'; (try simp only [List.cons_append, List.nil_append] at N'); (try dsimp only); (try k_fold))
  k_steps
  refine Hold.out ?_
  k_dflt (refine LCg.Assign_ListComp_U (F₀ := by k_asm) (by rfl) (by with_unfolding_all rfl) (by with_unfolding_all rfl) (by decide) (by rfl) (by decide) (by rfl) (by rfl) (by rfl) ?_)
  k_steps
  rename Fr _ _ _ _ => lF
  rename News _ _ _ _ => lN0
  have lN := news_swap lN0
  clear lN0
  rename IntsAre _ (sieveL _) => hIs
  have hsl := sieve_len ⟨n.toNat, by omega⟩
  have hsv := sieve_facts ⟨n.toNat, by omega⟩
  dsimp only at hsv hsl
  have hvl := hIs.length
  refine Hold.out ?_
  refine LCg.CompSrc.ledger (by rfl) lF lN (.tail _ (.head _)) (by simp only [List.size_toArray, sizeLine_eq]; omega) fun g => comp_ind _ (fun i ys nw => ∃ led, nw = (adN lN, oN lN) :: (adN lN.tail', oN lN.tail') :: (led ++ news) ∧ PairsIn led ys ((swP0 n.toNat).take i)) ?fin ?step _ 0 [] _ (Nat.add_zero _) ⟨[], rfl, .nil⟩
  case step =>
    rintro i ys nw hi ⟨led, rfl, hJ⟩ v I oI C oC D m2 h tk E' hv hNs hmx Fc Nc off ne
    obtain ⟨x, tx, rfl, hx⟩ := hIs.at i v (by simpa using hv)
    obtain ⟨hx2, hx14⟩ := hsv x (List.mem_of_getElem? hx)
    dsimp only [adN, oN] at Nc off ⊢
    k_steps
    rename News _ _ _ _ => nE
    rename _ < _ ∧ _ < _ ∧ _ < _ ∧ _ < _ ∧ _ < _ ∧ AllLt _ _ => hA
    have n4 := nE.tail'.tail'.tail'.tail'
    refine Hold.out ?_
    show LCg.CompEnd _ _ _ _ _ _ _ _ _ _ _ _ _ _
    refine LCg.CompEnd.intro (by assumption) nE ((adN n4, oN n4) :: (adN n4.tail', oN n4.tail') :: (((adN nE, oN nE) :: led) ++ news)) ?sub ⟨off.1, off.2.1, ⟨Nat.ne_of_gt hA.1, Nat.ne_of_gt hA.2.1, Nat.ne_of_gt hA.2.2.1⟩, off.2.2⟩ (.inr ⟨_, .tail _ (.head _), rfl, _, rfl⟩) ⟨(adN nE, oN nE) :: led, rfl, ?pi⟩
    case sub => intro p hp; simp only [List.cons_append, List.mem_cons, List.mem_append] at hp ⊢; rcases hp with h | h | h | h | h | h | h | h <;> simp [h]
    case pi =>
      have e : (swP0 n.toNat).take (i + 1) = (swP0 n.toNat).take i ++ [(x, swE n.toNat x.toNat)] := by rw [List.take_add_one]; simp [swP0, hx]
      rw [e]
      exact (hJ.mono mem2).snoc (.head _)
  case fin =>
    rintro ys nw ⟨led, rfl, hJ⟩
    intro D h tk FD ND oD
    dsimp only [adN, oN] at ND oD
    rw [List.take_of_length_le (by simp only [List.size_toArray, swP0, List.length_map]; omega)] at hJ
    have hyl : ys.length ≤ 14 := by have := hJ.length; simp [swP0] at this; omega
    k_steps
    refine Hold.out ?_
    k_dflt (refine LCt.ListComp_T (F₀ := by k_asm) (by with_unfolding_all rfl) (by decide) (by rfl) (by decide) (by rfl) ?_)
    k_steps
    rename Fr _ _ _ _ => lF
    rename News _ _ _ _ => lN
    refine Hold.out ?_
    refine LCt.CompSrcT.ledger (by rfl) lF lN (.head _) (by simp only [List.size_toArray, sizeLine_eq]; omega) fun g => comp_indT _ (fun i ys2 nw => nw = (adN lN, oN lN) :: (adN lN.tail', oN lN.tail') :: (adN lN.tail'.tail', oN lN.tail'.tail') :: (led ++ news) ∧ PairsIn led ys2 (((swP0 n.toNat).take i).filter fun x => decide (0 < x.2))) ?fin2 ?step2 _ 0 [] _ (Nat.add_zero _) ⟨rfl, .nil⟩
    case step2 =>
      rintro i ys2 nw hi ⟨rfl, hJ2⟩ v I oI C oC D2 m2 h2 tk2 E' hv hNs hmx Fc Nc off ne
      obtain ⟨ta, pa, ea, t1, t2, nn, rfl, hmem, hps⟩ := hJ.at i v (by simpa using hv)
      dsimp only [adN, oN] at Nc off ⊢
      have hmem2 : (ta, tup2 pa t1 (ea : Int) t2 nn) ∈ (I, oI) :: (C, oC) :: (D2, LCg.lst ys2) :: (adN lN, oN lN) :: (adN lN.tail', oN lN.tail') :: (adN lN.tail'.tail', oN lN.tail'.tail') :: (led ++ news) := by simp [hmem]
      dsimp only [adN, oN] at hmem2
      have e2 : (swP0 n.toNat).take (i + 1) = (swP0 n.toNat).take i ++ [(pa, ea)] := by rw [List.take_add_one, hps]; rfl
      k_steps
      · rename (0 : Int) < _ => h0
        refine Hold.out ?_
        refine LCg.CompEnd.intro (by assumption) (by assumption) _ (fun p hp => hp) off (.inr ⟨_, .head _, rfl, _, rfl⟩) ⟨rfl, ?_⟩
        have h1 : 0 < ea := by omega
        rw [e2, List.filter_append]
        simp only [List.filter_cons, List.filter_nil, h1, decide_true, if_true]
        exact hJ2.snoc hmem
      · rename ¬ (0 : Int) < _ => h0
        refine Hold.out ?_
        refine LCg.CompEnd.intro (by assumption) (by assumption) _ (fun p hp => hp) off (.inr ⟨_, .head _, rfl, _, rfl⟩) ⟨rfl, ?_⟩
        have h1 : ¬ 0 < ea := by omega
        rw [e2, List.filter_append]
        simp only [List.filter_cons, List.filter_nil, h1, decide_false, Bool.false_eq_true, if_false, List.append_nil]
        exact hJ2
    case fin2 =>
      rintro ys2 nw ⟨rfl, hJ2⟩
      intro D2 h2 tk2 FD2 ND2 oD2
      dsimp only [adN, oN] at ND2 oD2
      rw [List.take_of_length_le (by simp only [List.size_toArray]; rw [hJ.length]; exact Nat.le_refl _)] at hJ2
      obtain ⟨hw1, hw2, hw3, hw4, _⟩ := sw_facts ⟨n.toNat, by omega⟩
      dsimp only at hw1 hw2 hw3 hw4
      have hpos : ∀ x ∈ swP n.toNat, 1 ≤ x.1 := fun x hx => (hw2 x hx).1
      have hps : ∀ x ∈ swP n.toNat, x.1 ≤ 14 ∧ x.2 ≤ 14 := fun x hx => (hw2 x hx).2
      have hpp : prodP (swP n.toNat) < 2 ^ 40 := by omega
      have hJ3 : PairsIn led ys2 (swP n.toNat) := hJ2
      clear hJ2 hJ
      k_steps
      exact ret _ _ _ _ _ _ (by assumption) (news_head (by assumption) (fun p hp => by simp [hp])) (by assumption) (by assumption) (ne_drop (by assumption) (fun p hp => by simp [hp]))

local macro_rules | `(tactic| walk_at "call ref") => `(tactic| (k_here; (with_reducible show wpAny _ _ (call (Value.ref 95) _) _ _ _); k_dflt (refine' need_spec _ _ _ _ _ _ _ _ _ _; walk_at "z0"); walk_at "z9"))
local macro_rules | `(tactic| walk_at "call ref") => `(tactic| (k_here; (with_reducible show wpAny _ _ (call (Value.ref 128) _) _ _ _); k_dflt (refine' swing_spec _ _ _ _ _ _ _ _ _ _ _ _ _; walk_at "z0"); walk_at "z9"))
local macro_rules | `(tactic| walk_at "call ref") => `(tactic| (k_here; (with_reducible show wpAny _ _ (call (Value.ref 177) _) _ _ _); k_dflt (refine' mul_spec _ _ _ _ _ _ _ _ _ _ _ _ _ _ _ _ _ _ _; walk_at "z0"); walk_at "z9"))
local macro_rules | `(tactic| walk_at "call ref") => `(tactic| k_extra "rec")
omit B F X N T hk in
theorem fact_spec (len : Nat) : ∀ {w : World} {p : Program} {loose : List Str} {mean : ExcName → Option Value} {mg mb : Str → Option Value} {dp un : Nat} {gd : Option (List Code)} {cn : Str} {cs : Scope} {a : Addr} {ccd : Value} {cl : List (Str × Addr)} {outer : List Env} {A₀ : Around} {base h₀ : Heap} {L : Addr} {m : Str → Option Value} {news : List (Addr × Obj)} {s : Shared} {Q E : Value → Shared → Prop}
  (B : Below A₀ base outer h₀) (F : Fr h₀ L s.heap m) (X : (hd.heap_39 w.params).In h₀) (N : News h₀ L s.heap news) (T : Top p loose mean mg mb h₀) (hk : cs.kind = .function)
  {n W : Int} {tn tw : Tok} (hn0 : 0 ≤ n) (hn : n ≤ len) (hl : len ≤ 14) (hW : 3 ≤ W) (hW' : W ≤ 9)
  (hd : dp + 50 + len < recursionLimit) (hu : un + 350 + 8 * len < cLine) (ret : RetR h₀ L m news s Q (2 ^ W.toNat) (factN n.toNat : Nat)),
    wpAny (model MP w) (ktrTop dp un gd cn cs L a ccd cl outer) (call (.ref 135) [.int n tn, .int W tw, .ref 177]) Q E s := by
  induction len using Nat.strongRecOn with
  | ind len IH =>
  intro w p loose mean mg mb dp un gd cn cs a ccd cl outer A₀ base h₀ L m news s Q E B F X N T hk n W tn tw hn0 hn hl hW hW' hd hu ret
  revert X; delta MP; k_fill; intro X
  refine wpAny_call ?_
  k_dflt ktr_enter
  obtain ⟨hB, hB'⟩ := pw hW hW'
  have hq0 : 0 ≤ n.fdiv 2 := by rw [Int.fdiv_eq_ediv_of_nonneg _ (by omega)]; omega
  have hq1 : (n.fdiv 2).toNat = n.toNat / 2 := by rw [Int.fdiv_eq_ediv_of_nonneg _ (by omega)]; omega
  have hq2 : n.fdiv 2 ≤ 14 := by rw [Int.fdiv_eq_ediv_of_nonneg _ (by omega)]; omega
  have hq3 : 2 ≤ n → n.fdiv 2 ≤ ((len - 1 : Nat) : Int) := by rw [Int.fdiv_eq_ediv_of_nonneg _ (by omega)]; omega
  obtain ⟨_, _, hw3, hw4, hw5⟩ := sw_facts ⟨n.toNat, by omega⟩
  dsimp only at hw3 hw4 hw5
  have hf1 := fact_le ⟨n.toNat / 2, by omega⟩
  dsimp only at hf1
  have hf2 : ((factN (n.fdiv 2).toNat : Nat) : Int) < 2 ^ 60 := by rw [hq1]; omega
  have hf3 : ((factN (n.fdiv 2).toNat : Nat) : Int) * ((factN (n.fdiv 2).toNat : Nat) : Int) < 2 ^ 60 := by
    rw [hq1]
    have : ((factN (n.toNat / 2) : Nat) : Int) * ((factN (n.toNat / 2) : Nat) : Int) ≤ 5040 * 5040 := Int.mul_le_mul (by omega) (by omega) (by omega) (by omega)
    omega
  k_with "rec" =>
    (with_reducible show wpAny _ _ (call (Value.ref 135) _) _ _ _)
    k_dflt (refine' IH (len - 1) (by omega) (by k_asm) (by k_asm) (by k_asm) (by k_asm) (by k_asm) (by exact rfl) (by omega) (by omega) (by omega) hW hW' (by ktr_room) (by ktr_units) _)
    intro r9 vs9 k9 zs9 h9 tk9 F9 N9 hI9 hR9 hlt9
    try dsimp only
    try k_fold
  k_steps
  · refine ret _ [_] _ [1] _ _ (by assumption) (by assumption) (.cons _ _ .nil) ?_ (allNe (by assumption))
    have h01 : n.toNat = 0 ∨ n.toNat = 1 := by omega
    have : ((factN n.toNat : Nat) : Int) = 1 := by rcases h01 with h | h <;> rw [h] <;> rfl
    rw [this]
    exact Rep.one (by omega)
  · have e : ((factN n.toNat : Nat) : Int) = ((factN (n.fdiv 2).toNat : Nat) : Int) * ((factN (n.fdiv 2).toNat : Nat) : Int) * prodP (swP n.toNat) := by rw [hq1]; exact hw5.symm
    rw [e] at ret
    exact ret _ _ _ _ _ _ (by assumption) (news_head (by assumption) (fun p hp => by simp [hp])) (by assumption) (by assumption) (ne_drop (by assumption) (fun p hp => by simp [hp]))
theorem fact_use {n W : Int} {tn tw : Tok} (hn0 : 0 ≤ n) (hn : n ≤ 14) (hW : 3 ≤ W) (hW' : W ≤ 9) (hd : dp + 70 < recursionLimit) (hu : un + 500 < cLine)
    (ret : RetR h₀ L m news s Q (2 ^ W.toNat) (factN n.toNat : Nat)) :
    wpAny (model MP w) (ktrTop dp un gd cn cs L a ccd cl outer) (call (.ref 135) [.int n tn, .int W tw, .ref 177]) Q E s :=
  fact_spec 14 B F X N T hk hn0 (by omega) (by omega) hW hW' (by omega) (by omega) ret

end
end Mine
end
section
theorem Mine.w_off6 : True := by
  w_top off
  exact trivial
open PySem PySem.W PyProof.Rows
set_option maxRecDepth 100000
set_option maxHeartbeats 8000000
namespace Mine
local macro_rules | `(tactic| k_mem) => `(tactic| assumption)
local macro_rules | `(tactic| walk_at "MPost") => `(tactic| dsimp only [MPost])
local macro_rules | `(tactic| is_list) => `(tactic| exact News.isList (by with_reducible assumption) (by k_mem))
local macro_rules | `(tactic| k_all) => `(tactic| first | assumption | (refine allNe ?_; assumption) | (refine allNe (allLt_out ?_); assumption) | (refine allNe (allLt_out (And.right ?_)); assumption) | fail "no apartness")
local macro_rules | `(tactic| size_fits) => `(tactic| ((simp only [List.size_toArray, sizeLine_eq, List.length_append, List.length_cons, List.length_nil]); omega))
local macro_rules | `(tactic| walk_at "pyIter ref") => `(tactic| refine Hold.mk ?_)
local macro_rules | `(tactic| walk_at "call ref") => `(tactic| refine Hold.mk ?_)
section
variable {w : World} {p : Program} {loose : List Str} {mean : ExcName → Option Value} {mg mb : Str → Option Value} {dp un : Nat} {gd : Option (List Code)} {cn : Str} {cs : Scope} {a : Addr} {ccd : Value} {cl : List (Str × Addr)} {outer : List Env} {A₀ : Around} {base h₀ : Heap} {L : Addr} {m : Str → Option Value} {news : List (Addr × Obj)} {s : Shared} {Q E : Value → Shared → Prop}
  (B : Below A₀ base outer h₀) (F : Fr h₀ L s.heap m) (X : (hd.heap_39 w.params).In h₀) (N : News h₀ L s.heap news) (T : Top p loose mean mg mb h₀) (hk : cs.kind = .function)
include B F X N T hk
local macro_rules | `(tactic| walk_at "call ref") => `(tactic| (k_here; (with_reducible show wpAny _ _ (call (Value.ref 95) _) _ _ _); k_dflt (refine' need_spec _ _ _ _ _ _ _ _ _ _; walk_at "z0"); walk_at "z9"))
local macro_rules | `(tactic| walk_at "call ref") => `(tactic| (k_here; (with_reducible show wpAny _ _ (call (Value.ref 135) _) _ _ _); k_dflt (refine' fact_use _ _ _ _ _ _ _ _ _ _ _ _ _; walk_at "z0"); walk_at "z9"))
local macro_rules | `(tactic| walk_at "call ref") => `(tactic| (k_here; (with_reducible show wpAny _ _ (call (Value.ref 81) _) _ _ _); k_dflt (refine' shift_spec _ _ _ _ _ _ _ _ _ _ _ _ _ _ _ _ _; walk_at "z0"); walk_at "z9"))
local macro_rules | `(tactic| walk_at "call ref") => `(tactic| (k_here; (with_reducible show wpAny _ _ (call (Value.ref 102) _) _ _ _); k_dflt (refine' prodc_use _ _ _ _ _ _ _ _ _ _ _ _ _ _ _ _; walk_at "z0"); walk_at "z9"))
local macro_rules | `(tactic| walk_at "call ref") => `(tactic| (k_here; (with_reducible show wpAny _ _ (call (Value.ref 88) _) _ _ _); k_dflt (refine' sieve_use _ _ _ _ _ _ _ _ _ _ _; walk_at "z0"); walk_at "z9"))
local macro_rules | `(tactic| walk_at "call ref") => `(tactic| (k_here; (with_reducible show wpAny _ _ (call (Value.ref 163) _) _ _ _); k_dflt (refine' binom_spec _ _ _ _ _ _ _ _ _ _ _ _ _ _ _; walk_at "z0"); walk_at "z9"))
local macro_rules | `(tactic| walk_at "call ref") => `(tactic| (k_here; (with_reducible show wpAny _ _ (call (Value.ref 74) _) _ _ _); k_dflt (refine' sub_spec _ _ _ _ _ _ _ _ _ _ _ _ _ _ _ _ _ _ _ _; walk_at "z0"); walk_at "z9"))
local macro_rules | `(tactic| walk_at "call type:list") => `(tactic| refine Hold.mk ?_)
theorem primor_spec {n W : Int} {tn tw : Tok} (hn0 : 0 ≤ n) (hn : n ≤ 14) (hW : 3 ≤ W) (hW' : W ≤ 9) (hd : dp + 70 < recursionLimit) (hu : un + 500 < cLine)
    (ret : RetR h₀ L m news s Q (2 ^ W.toNat) (prodL (sieveL n.toNat))) :
    wpAny (model MP w) (ktrTop dp un gd cn cs L a ccd cl outer) (call (.ref 149) [.int n tn, .int W tw, .ref 177]) Q E s := by
  revert X; delta MP; k_fill; intro X
  refine wpAny_call ?_
  k_dflt ktr_enter
  have hsl := sieve_len ⟨n.toNat, by omega⟩
  have hsv := sieve_facts ⟨n.toNat, by omega⟩
  have hsp := sieve_prod ⟨n.toNat, by omega⟩
  dsimp only at hsv hsl hsp
  have hpos : ∀ x ∈ sieveL n.toNat, 1 ≤ x := fun x hx => by have := hsv x hx; omega
  have hpp : prodL (sieveL n.toNat) < 2 ^ 40 := by omega
  k_steps
  exact ret _ _ _ _ _ _ (by assumption) (news_head (by assumption) (fun p hp => by simp [hp])) (by assumption) (by assumption) (ne_drop (by assumption) (fun p hp => by simp [hp]))
theorem catalan_spec {n W : Int} {tn tw : Tok} (hn0 : 0 ≤ n) (hn : n ≤ 7) (hW : 3 ≤ W) (hW' : W ≤ 9) (hd : dp + 70 < recursionLimit) (hu : un + 500 < cLine)
    (ret : RetR h₀ L m news s Q (2 ^ W.toNat) (binI (2 * n.toNat) n.toNat - binI (2 * n.toNat) (n.toNat + 1))) :
    wpAny (model MP w) (ktrTop dp un gd cn cs L a ccd cl outer) (call (.ref 170) [.int n tn, .int W tw, .ref 177]) Q E s := by
  revert X; delta MP; k_fill; intro X
  refine wpAny_call ?_
  k_dflt ktr_enter
  have e1 : (2 * n).toNat = 2 * n.toNat := by omega
  have e2 : (n + 1).toNat = n.toNat + 1 := by omega
  obtain ⟨hc1, hc2⟩ := cat_facts ⟨n.toNat, by omega⟩
  dsimp only at hc1 hc2
  rw [← e1] at ret hc1 hc2
  rw [← e2] at ret hc1
  have hc3 : binI (2 * n).toNat n.toNat < 2 ^ 60 := by omega
  have hc4 : binI (2 * n).toNat (n + 1).toNat < 2 ^ 60 := by omega
  k_steps
  exact ret _ _ _ _ _ _ (by assumption) (news_head (by assumption) (fun p hp => by simp [hp])) (by assumption) (by assumption) (ne_drop (by assumption) (fun p hp => by simp [hp]))
theorem dfact_spec {n W : Int} {tn tw : Tok} (hn0 : 0 ≤ n) (hn : n ≤ 8) (hW : 3 ≤ W) (hW' : W ≤ 9) (hd : dp + 80 < recursionLimit) (hu : un + 550 < cLine)
    (ret : RetR h₀ L m news s Q (2 ^ W.toNat) (dfactN n.toNat : Nat)) :
    wpAny (model MP w) (ktrTop dp un gd cn cs L a ccd cl outer) (call (.ref 142) [.int n tn, .int W tw, .ref 177]) Q E s := by
  revert X; delta MP; k_fill; intro X
  refine wpAny_call ?_
  k_dflt ktr_enter
  have hpar : n.fmod 2 = 0 ∨ (n = 1 ∨ n = 3 ∨ n = 5 ∨ n = 7) := by rw [Int.fmod_eq_emod_of_nonneg _ (by omega)]; omega
  rcases hpar with hpar | rfl | rfl | rfl | rfl
  · have hq0 : 0 ≤ n.fdiv 2 := by rw [Int.fdiv_eq_ediv_of_nonneg _ (by omega)]; omega
    have hq2 : n.fdiv 2 ≤ 14 := by rw [Int.fdiv_eq_ediv_of_nonneg _ (by omega)]; omega
    have hq1 : (n.fdiv 2).toNat = n.toNat / 2 := by rw [Int.fdiv_eq_ediv_of_nonneg _ (by omega)]; omega
    have hev : n.toNat % 2 = 0 := by rw [Int.fmod_eq_emod_of_nonneg _ (by omega)] at hpar; omega
    have hf1 := fact_le ⟨n.toNat / 2, by omega⟩
    dsimp only at hf1
    have hf2 : ((factN (n.fdiv 2).toNat : Nat) : Int) < 2 ^ 60 := by rw [hq1]; omega
    have hdf := dfact_even ⟨n.toNat, by omega⟩ hev
    dsimp only at hdf
    rw [← hq1] at hdf
    rw [← hdf] at ret
    k_steps
    · exact ret _ _ _ _ _ _ (by assumption) (news_head (by assumption) (fun p hp => by simp [hp])) (by assumption) (by assumption) (ne_drop (by assumption) (fun p hp => by simp [hp]))
    all_goals exact absurd hpar (by assumption)
  · k_steps
    rename Fr _ _ _ _ => lF
    rename News _ _ _ _ => lN
    rename IsRange _ _ _ _ _ _ _ _ => rgX
    refine Hold.out ?_
    refine list_rangeD (n := 1) (by rfl) lF lN rgX (by decide) (by decide) (by decide) ?_
    intro h' tk ys F' N' hk' hn0 hL hP hC
    obtain ⟨nX, NX⟩ := made_enters hP F' N' hn0
    have hI : IntsAre ys [1] := CarriedAll.intsOf hC
    have hpos : ∀ x ∈ ([1] : List Int), 1 ≤ x := by decide
    have hl15 : ([1] : List Int).length ≤ 15 := by decide
    have hpp : prodL [1] < 2 ^ 40 := by decide
    clear hL hP hC N' lN
    k_steps
    exact ret _ _ _ _ _ _ (by assumption) (news_head (by assumption) (fun p hp => by simp [hp])) (by assumption) (by assumption) (ne_drop (by assumption) (fun p hp => by simp [hp]))
  · k_steps
    rename Fr _ _ _ _ => lF
    rename News _ _ _ _ => lN
    rename IsRange _ _ _ _ _ _ _ _ => rgX
    refine Hold.out ?_
    refine list_rangeD (n := 2) (by rfl) lF lN rgX (by decide) (by decide) (by decide) ?_
    intro h' tk ys F' N' hk' hn0 hL hP hC
    obtain ⟨nX, NX⟩ := made_enters hP F' N' hn0
    have hI : IntsAre ys [1, 3] := CarriedAll.intsOf hC
    have hpos : ∀ x ∈ ([1, 3] : List Int), 1 ≤ x := by decide
    have hl15 : ([1, 3] : List Int).length ≤ 15 := by decide
    have hpp : prodL [1, 3] < 2 ^ 40 := by decide
    clear hL hP hC N' lN
    k_steps
    exact ret _ _ _ _ _ _ (by assumption) (news_head (by assumption) (fun p hp => by simp [hp])) (by assumption) (by assumption) (ne_drop (by assumption) (fun p hp => by simp [hp]))
  · k_steps
    rename Fr _ _ _ _ => lF
    rename News _ _ _ _ => lN
    rename IsRange _ _ _ _ _ _ _ _ => rgX
    refine Hold.out ?_
    refine list_rangeD (n := 3) (by rfl) lF lN rgX (by decide) (by decide) (by decide) ?_
    intro h' tk ys F' N' hk' hn0 hL hP hC
    obtain ⟨nX, NX⟩ := made_enters hP F' N' hn0
    have hI : IntsAre ys [1, 3, 5] := CarriedAll.intsOf hC
    have hpos : ∀ x ∈ ([1, 3, 5] : List Int), 1 ≤ x := by decide
    have hl15 : ([1, 3, 5] : List Int).length ≤ 15 := by decide
    have hpp : prodL [1, 3, 5] < 2 ^ 40 := by decide
    clear hL hP hC N' lN
    k_steps
    exact ret _ _ _ _ _ _ (by assumption) (news_head (by assumption) (fun p hp => by simp [hp])) (by assumption) (by assumption) (ne_drop (by assumption) (fun p hp => by simp [hp]))
  · k_steps
    rename Fr _ _ _ _ => lF
    rename News _ _ _ _ => lN
    rename IsRange _ _ _ _ _ _ _ _ => rgX
    refine Hold.out ?_
    refine list_rangeD (n := 4) (by rfl) lF lN rgX (by decide) (by decide) (by decide) ?_
    intro h' tk ys F' N' hk' hn0 hL hP hC
    obtain ⟨nX, NX⟩ := made_enters hP F' N' hn0
    have hI : IntsAre ys [1, 3, 5, 7] := CarriedAll.intsOf hC
    have hpos : ∀ x ∈ ([1, 3, 5, 7] : List Int), 1 ≤ x := by decide
    have hl15 : ([1, 3, 5, 7] : List Int).length ≤ 15 := by decide
    have hpp : prodL [1, 3, 5, 7] < 2 ^ 40 := by decide
    clear hL hP hC N' lN
    k_steps
    exact ret _ _ _ _ _ _ (by assumption) (news_head (by assumption) (fun p hp => by simp [hp])) (by assumption) (by assumption) (ne_drop (by assumption) (fun p hp => by simp [hp]))

end
end Mine
end
section
theorem Mine.w_off7 : True := by
  w_top off
  exact trivial
open PySem PySem.W PyProof.Rows
set_option maxRecDepth 100000
set_option maxHeartbeats 8000000
namespace Mine
local macro_rules | `(tactic| k_mem) => `(tactic| assumption)
local macro_rules | `(tactic| walk_at "MPost") => `(tactic| dsimp only [MPost])
local macro_rules | `(tactic| is_list) => `(tactic| exact News.isList (by with_reducible assumption) (by k_mem))
local macro_rules | `(tactic| k_all) => `(tactic| first | assumption | (refine allNe ?_; assumption) | (refine allNe (allLt_out ?_); assumption) | (refine allNe (allLt_out (And.right ?_)); assumption) | fail "no apartness")
local macro_rules | `(tactic| size_fits) => `(tactic| ((simp only [List.size_toArray, sizeLine_eq, List.length_append, List.length_cons, List.length_nil]); omega))
local macro_rules | `(tactic| walk_at "pyIter ref") => `(tactic| refine Hold.mk ?_)
local macro_rules | `(tactic| walk_at "call ref") => `(tactic| refine Hold.mk ?_)
section
variable {w : World} {p : Program} {loose : List Str} {mean : ExcName → Option Value} {mg mb : Str → Option Value} {dp un : Nat} {gd : Option (List Code)} {cn : Str} {cs : Scope} {a : Addr} {ccd : Value} {cl : List (Str × Addr)} {outer : List Env} {A₀ : Around} {base h₀ : Heap} {L : Addr} {m : Str → Option Value} {news : List (Addr × Obj)} {s : Shared} {Q E : Value → Shared → Prop}
  (B : Below A₀ base outer h₀) (F : Fr h₀ L s.heap m) (X : (hd.heap_39 w.params).In h₀) (N : News h₀ L s.heap news) (T : Top p loose mean mg mb h₀) (hk : cs.kind = .function)
include B F X N T hk
theorem need_raise {n : Int} {t : Tok} (hn : n < 0) (hd : dp + 1 < recursionLimit) (hu : un + 8 < cLine) (ret : RaiR base h₀ L m news s E cn cs a ccd cl outer) :
    wpAny (model MP w) (ktrTop dp un gd cn cs L a ccd cl outer) (call (.ref 95) [.int n t]) Q E s := by
  revert X; delta MP; k_fill; intro X
  refine wpAny_call ?_
  k_dflt ktr_enter
  k_steps
  exact ret _ _ _ _ _ _ (by assumption) (by assumption) (by assumption)
local macro_rules | `(tactic| walk_at "call ref") => `(tactic| (k_here; (with_reducible show wpAny _ _ (call (Value.ref 95) _) _ _ _); k_dflt (refine' need_raise _ _ _ _ _ _ _ _ _ _; walk_at "z0"); walk_at "z9"))
theorem fact_raise {n k W : Int} {tn tk0 tw : Tok} (hn : n < 0) (hd : dp + 10 < recursionLimit) (hu : un + 50 < cLine) (ret : RaiR base h₀ L m news s E cn cs a ccd cl outer) :
    wpAny (model MP w) (ktrTop dp un gd cn cs L a ccd cl outer) (call (.ref 135) [.int n tn, .int W tw, .ref 177]) Q E s := by
  revert X; delta MP; k_fill; intro X
  refine wpAny_call ?_
  k_dflt ktr_enter
  k_steps
  exact ret _ _ _ _ _ _ (by assumption) (by assumption) (by assumption)
theorem dfact_raise {n k W : Int} {tn tk0 tw : Tok} (hn : n < 0) (hd : dp + 10 < recursionLimit) (hu : un + 50 < cLine) (ret : RaiR base h₀ L m news s E cn cs a ccd cl outer) :
    wpAny (model MP w) (ktrTop dp un gd cn cs L a ccd cl outer) (call (.ref 142) [.int n tn, .int W tw, .ref 177]) Q E s := by
  revert X; delta MP; k_fill; intro X
  refine wpAny_call ?_
  k_dflt ktr_enter
  k_steps
  exact ret _ _ _ _ _ _ (by assumption) (by assumption) (by assumption)
theorem primor_raise {n k W : Int} {tn tk0 tw : Tok} (hn : n < 0) (hd : dp + 10 < recursionLimit) (hu : un + 50 < cLine) (ret : RaiR base h₀ L m news s E cn cs a ccd cl outer) :
    wpAny (model MP w) (ktrTop dp un gd cn cs L a ccd cl outer) (call (.ref 149) [.int n tn, .int W tw, .ref 177]) Q E s := by
  revert X; delta MP; k_fill; intro X
  refine wpAny_call ?_
  k_dflt ktr_enter
  k_steps
  exact ret _ _ _ _ _ _ (by assumption) (by assumption) (by assumption)
theorem catalan_raise {n k W : Int} {tn tk0 tw : Tok} (hn : n < 0) (hd : dp + 10 < recursionLimit) (hu : un + 50 < cLine) (ret : RaiR base h₀ L m news s E cn cs a ccd cl outer) :
    wpAny (model MP w) (ktrTop dp un gd cn cs L a ccd cl outer) (call (.ref 170) [.int n tn, .int W tw, .ref 177]) Q E s := by
  revert X; delta MP; k_fill; intro X
  refine wpAny_call ?_
  k_dflt ktr_enter
  k_steps
  exact ret _ _ _ _ _ _ (by assumption) (by assumption) (by assumption)
theorem binom_raise {n k W : Int} {tn tk0 tw : Tok} (hn : n < 0) (hd : dp + 10 < recursionLimit) (hu : un + 50 < cLine) (ret : RaiR base h₀ L m news s E cn cs a ccd cl outer) :
    wpAny (model MP w) (ktrTop dp un gd cn cs L a ccd cl outer) (call (.ref 163) [.int n tn, .int k tk0, .int W tw, .ref 177]) Q E s := by
  revert X; delta MP; k_fill; intro X
  refine wpAny_call ?_
  k_dflt ktr_enter
  k_steps
  exact ret _ _ _ _ _ _ (by assumption) (by assumption) (by assumption)
local macro_rules | `(tactic| walk_at "call ref") => `(tactic| (k_here; (with_reducible show wpAny _ _ (call (Value.ref 95) _) _ _ _); k_dflt (refine' need_spec _ _ _ _ _ _ _ _ _ _; walk_at "z0"); walk_at "z9"))
local macro_rules | `(tactic| walk_at "call ref") => `(tactic| (k_here; (with_reducible show wpAny _ _ (call (Value.ref 95) _) _ _ _); k_dflt (refine' need_raise _ _ _ _ _ _ _ _ _ _; walk_at "z0"); walk_at "z9"))
theorem binom_raise2 {n k W : Int} {tn tk0 tw : Tok} (hn : 0 ≤ n) (hk0 : k < 0) (hd : dp + 10 < recursionLimit) (hu : un + 50 < cLine) (ret : RaiR base h₀ L m news s E cn cs a ccd cl outer) :
    wpAny (model MP w) (ktrTop dp un gd cn cs L a ccd cl outer) (call (.ref 163) [.int n tn, .int k tk0, .int W tw, .ref 177]) Q E s := by
  revert X; delta MP; k_fill; intro X
  refine wpAny_call ?_
  k_dflt ktr_enter
  k_steps
  exact ret _ _ _ _ _ _ (by assumption) (by assumption) (by assumption)

end
end Mine
end
section
theorem Mine.w_off8 : True := by
  w_top off
  exact trivial
open PySem PySem.W PyProof.Rows
set_option maxRecDepth 100000
set_option maxHeartbeats 8000000
namespace Mine
local macro_rules | `(tactic| k_mem) => `(tactic| assumption)
local macro_rules | `(tactic| walk_at "MPost") => `(tactic| dsimp only [MPost])
local macro_rules | `(tactic| is_list) => `(tactic| exact News.isList (by with_reducible assumption) (by k_mem))
local macro_rules | `(tactic| k_all) => `(tactic| first | assumption | (refine allNe ?_; assumption) | (refine allNe (allLt_out ?_); assumption) | (refine allNe (allLt_out (And.right ?_)); assumption) | fail "no apartness")
local macro_rules | `(tactic| size_fits) => `(tactic| ((simp only [List.size_toArray, sizeLine_eq, List.length_append, List.length_cons, List.length_nil]); omega))
local macro_rules | `(tactic| walk_at "pyIter ref") => `(tactic| refine Hold.mk ?_)
local macro_rules | `(tactic| walk_at "call ref") => `(tactic| refine Hold.mk ?_)
section
variable {w : World} {p : Program} {loose : List Str} {mean : ExcName → Option Value} {mg mb : Str → Option Value} {dp un : Nat} {gd : Option (List Code)} {cn : Str} {cs : Scope} {a : Addr} {ccd : Value} {cl : List (Str × Addr)} {outer : List Env} {A₀ : Around} {base h₀ : Heap} {L : Addr} {m : Str → Option Value} {news : List (Addr × Obj)} {s : Shared} {Q E : Value → Shared → Prop}
  (B : Below A₀ base outer h₀) (F : Fr h₀ L s.heap m) (X : (hd.heap_39 w.params).In h₀) (N : News h₀ L s.heap news) (T : Top p loose mean mg mb h₀) (hk : cs.kind = .function)
include B F X N T hk
local macro_rules | `(tactic| walk_at "call ref") => `(tactic| (k_here; (with_reducible show wpAny _ _ (call (Value.ref 67) _) _ _ _); k_dflt (refine' add_spec _ _ _ _ _ _ _ _ _ _ _ _ _ _ _ _ _ _ _; walk_at "z0"); walk_at "z9"))
local macro_rules | `(tactic| walk_at "exec For Name Name cons nil") => `(tactic| (k_here; (rename Fr _ _ _ _ => lF'); (with_unfolding_all refine' For_invVF lF' ?k1 ?k2 ?_; (case k1 => exact rfl); (case k2 => exact rfl); k_whole)))
theorem sum_spec {la : Addr} {va : List Value} {ka : Nat} {Ns : List Int} {W : Int} {tw : Tok} (hm : (la, listOf va.toArray ka) ∈ news) (hR : RowsIn news (2 ^ W.toNat) va Ns) (hl : Ns.length ≤ 100) (hW : 3 ≤ W) (hW' : W ≤ 9)
    (hd : dp + 5 < recursionLimit) (hu : un + 50 < cLine) (ret : RetR h₀ L m news s Q (2 ^ W.toNat) (sumL Ns)) :
    wpAny (model MP w) (ktrTop dp un gd cn cs L a ccd cl outer) (call (.ref 191) [.ref la, .int W tw]) Q E s := by
  revert X; delta MP; k_fill; intro X
  refine wpAny_call ?_
  k_dflt ktr_enter
  obtain ⟨hB, hB'⟩ := pw hW hW'
  have hbd := sumL_bound hR.bound
  k_steps
  rename Fr _ _ _ _ => lF
  rename News _ _ _ _ => lN
  rename ∀ p ∈ news, p.1 < _ => hlt
  refine Hold.out ?_
  with_unfolding_all refine m_list (σ := SSt) (vs := va) (kk := ka) news (fun c => [(c.r, listOf c.vs.toArray c.k)]) (fun c => [(Str.ofString "found", .ref c.r)]) [Str.ofString "one"] (fun i c => IntsAre c.vs c.zs ∧ Rep (2 ^ W.toNat) c.zs c.S ∧ c.S = sumL (Ns.take i) ∧ (∀ p ∈ news, p.1 ≠ c.r)) ⟨ad hlt, [], 0, [], 0⟩ (by rfl) hm lF lN (fun p hp => hp) ?kk ⟨.nil, Rep.nil, rfl, allNe hlt⟩ ?_ ?_
  case kk => kst_all
  · clear lF lN
    rintro ⟨r, vs, k, zs, S⟩ i v u h tk rest I hv ⟨hI, hRr, hS, hoff⟩ hfix hback ⟨oI, hoI⟩ hMI F1 N1
    obtain ⟨ra, us, k1, zs1, N1', rfl, hmr, hI1, hR1, h01, h11, hNs⟩ := hR.at i v hv
    dsimp only [ad, List.cons_append, List.nil_append] at hI hRr hS hoff hMI F1 N1 hfix hback ⊢
    have hi : i < Ns.length := by rw [List.getElem?_eq_some_iff] at hNs; exact hNs.1
    obtain ⟨hb1, hb2⟩ := hbd i (by omega)
    rw [← hS] at hb1 hb2
    have hS60 : S < 2 ^ 60 := by omega
    have hN60 : N1' < 2 ^ 60 := by omega
    have hmr' := hfix _ hmr
    have e : S + N1' = sumL (Ns.take (i + 1)) := by rw [hS]; unfold sumL; exact (foldl_take_succ _ _ hNs).symm
    k_steps
    rename News _ _ _ _ => nE
    rename ∀ p ∈ _ :: rest, p.1 ≠ _ => hnr
    refine m_end (⟨_, _, _, _, S + N1'⟩ : SSt) (by assumption) nE keep1 ?nI2 ?kk2 ?sm2 ⟨by assumption, by assumption, e, fun p hp => ?nw2⟩
    case nI2 => intro p hp; rw [List.mem_singleton.mp hp]; exact (hnr (I, oI) (.tail _ hoI)).symm
    case kk2 => kst_all
    case sm2 => intro z h2 h3; have h4 := h3; simp only [List.forall_mem_cons, List.not_mem_nil, false_implies, implies_true, and_true, ne_eq] at h2; simp only [List.contains_cons, List.contains_nil, Bool.or_false, Bool.or_eq_false_iff, beq_eq_false_iff_ne, ne_eq] at h4; simp [kstB, h2, h3, h4]
    case nw2 => exact hnr p (.tail _ (hfix p hp))
  · clear lF lN
    rintro ⟨r, vs, k, zs, S⟩ u h tk ⟨hI, hRr, hS, hoff⟩ F1 N1
    dsimp only [ad, List.cons_append, List.nil_append] at hI hRr hS hoff F1 N1 ⊢
    rw [hR.length, List.take_length] at hS
    subst hS
    k_steps
    exact ret _ _ _ _ _ _ (by assumption) (by assumption) (by assumption) (by assumption) (by assumption)

end
end Mine
end
section
theorem Mine.w_off9 : True := by
  w_top off
  exact trivial
open PySem PySem.W PyProof.Rows
set_option maxRecDepth 100000
set_option maxHeartbeats 8000000
namespace Mine
local macro_rules | `(tactic| k_mem) => `(tactic| assumption)
local macro_rules | `(tactic| walk_at "MPost") => `(tactic| dsimp only [MPost])
local macro_rules | `(tactic| is_list) => `(tactic| exact News.isList (by with_reducible assumption) (by k_mem))
local macro_rules | `(tactic| k_all) => `(tactic| first | assumption | (refine allNe ?_; assumption) | (refine allNe (allLt_out ?_); assumption) | (refine allNe (allLt_out (And.right ?_)); assumption) | fail "no apartness")
local macro_rules | `(tactic| size_fits) => `(tactic| ((simp only [List.size_toArray, sizeLine_eq, List.length_append, List.length_cons, List.length_nil]); omega))
local macro_rules | `(tactic| walk_at "pyIter ref") => `(tactic| refine Hold.mk ?_)
local macro_rules | `(tactic| walk_at "call ref") => `(tactic| refine Hold.mk ?_)
section
variable {w : World} {p : Program} {loose : List Str} {mean : ExcName → Option Value} {mg mb : Str → Option Value} {dp un : Nat} {gd : Option (List Code)} {cn : Str} {cs : Scope} {a : Addr} {ccd : Value} {cl : List (Str × Addr)} {outer : List Env} {A₀ : Around} {base h₀ : Heap} {L : Addr} {m : Str → Option Value} {news : List (Addr × Obj)} {s : Shared} {Q E : Value → Shared → Prop}
  (B : Below A₀ base outer h₀) (F : Fr h₀ L s.heap m) (X : (hd.heap_39 w.params).In h₀) (N : News h₀ L s.heap news) (T : Top p loose mean mg mb h₀) (hk : cs.kind = .function)
include B F X N T hk
local macro_rules | `(tactic| k_mem) => `(tactic| first | assumption | (refine List.Mem.tail _ ?_; assumption))
local macro_rules | `(tactic| walk_at "call builtin:len") => `(tactic| (k_here; (with_reducible show wpAny _ _ (call (Value.builtin "len") [Value.ref _]) _ _ _); k_dflt (refine' KM.len_K ?N ?m ?s ?f ?_; (case N => k_asm); (case m => k_mem); (case s => exact size_self); (case f => omega))))
theorem take_spec {c lr : Addr} {i : Int} {ti : Tok} {us : List Value} {zs : List Int} {k kk : Nat} {rest : List (Addr × Obj)} {many : Int} {tm : Tok} (N' : News h₀ L s.heap ((c, listOf #[.int i ti, .ref lr] k) :: rest)) (hul : us.length ≤ 100) (hm : (lr, listOf us.toArray kk) ∈ rest) (hI : IntsAre us zs) (hc : ∀ p ∈ rest, p.1 ≠ c) (hi : 0 ≤ i) (hi' : i < 1000) (hmany : 0 < many)
    (hd : dp + 5 < recursionLimit) (hu : un + 50 < cLine) (ret : ∀ (x : Int) (t t2 : Tok) (k' : Nat) (h' : Heap) (tk' : Nat), Fr h₀ L h' m → News h₀ L h' ((c, listOf #[.int (i + 1) t2, .ref lr] k') :: rest) → 0 ≤ x → x < many → Q (.int x t) { s with heap := h', toks := tk' }) :
    wpAny (model MP w) (ktrTop dp un gd cn cs L a ccd cl outer) (call (.ref 184) [.ref c, .int many tm]) Q E s := by
  clear N
  revert X; delta MP; k_fill; intro X
  refine wpAny_call ?_
  k_dflt ktr_enter
  k_steps
  all_goals exact ret _ _ _ _ _ _ (by assumption) (by assumption) (by rw [Int.fmod_eq_emod_of_nonneg _ (by omega)]; exact Int.emod_nonneg _ (by omega)) (by rw [Int.fmod_eq_emod_of_nonneg _ (by omega)]; exact Int.emod_lt_of_pos _ hmany)

end
end Mine
end
section
theorem Mine.w_off10 : True := by
  w_top off
  exact trivial
open PySem PySem.W PyProof.Rows
set_option maxRecDepth 100000
set_option maxHeartbeats 8000000
namespace Mine
local macro_rules | `(tactic| k_mem) => `(tactic| assumption)
local macro_rules | `(tactic| walk_at "MPost") => `(tactic| dsimp only [MPost])
local macro_rules | `(tactic| is_list) => `(tactic| exact News.isList (by with_reducible assumption) (by k_mem))
local macro_rules | `(tactic| k_all) => `(tactic| first | assumption | (refine allNe ?_; assumption) | (refine allNe (allLt_out ?_); assumption) | (refine allNe (allLt_out (And.right ?_)); assumption) | fail "no apartness")
local macro_rules | `(tactic| size_fits) => `(tactic| ((simp only [List.size_toArray, sizeLine_eq, List.length_append, List.length_cons, List.length_nil]); omega))
local macro_rules | `(tactic| walk_at "pyIter ref") => `(tactic| refine Hold.mk ?_)
local macro_rules | `(tactic| walk_at "call ref") => `(tactic| refine Hold.mk ?_)
section
variable {w : World} {p : Program} {loose : List Str} {mean : ExcName → Option Value} {mg mb : Str → Option Value} {dp un : Nat} {gd : Option (List Code)} {cn : Str} {cs : Scope} {a : Addr} {ccd : Value} {cl : List (Str × Addr)} {outer : List Env} {A₀ : Around} {base h₀ : Heap} {L : Addr} {m : Str → Option Value} {news : List (Addr × Obj)} {s : Shared} {Q E : Value → Shared → Prop}
  (B : Below A₀ base outer h₀) (F : Fr h₀ L s.heap m) (X : (hd.heap_39 w.params).In h₀) (N : News h₀ L s.heap news) (T : Top p loose mean mg mb h₀) (hk : cs.kind = .function)
include B F X N T hk
local macro_rules | `(tactic| walk_at "call ref") => `(tactic| (k_here; (with_reducible show wpAny _ _ (call (Value.ref 163) _) _ _ _); k_dflt (refine' binom_spec _ _ _ _ _ _ _ _ _ _ _ _ _ _ _; walk_at "z0"); walk_at "z9"))
local macro_rules | `(tactic| walk_at "call ref") => `(tactic| (k_here; (with_reducible show wpAny _ _ (call (Value.ref 191) _) _ _ _); k_dflt (refine' sum_spec _ _ _ _ _ _ _ _ _ _ _ _ _ _; walk_at "z0"); walk_at "z9"))
local macro_rules | `(tactic| walk_at "call ref") => `(tactic| (k_here; (with_reducible show wpAny _ _ (call (Value.ref 81) _) _ _ _); k_dflt (refine' shift_spec _ _ _ _ _ _ _ _ _ _ _ _ _ _ _ _ _; walk_at "z0"); walk_at "z9"))
local macro_rules | `(tactic| walk_at "call ref") => `(tactic| (k_here; (with_reducible show wpAny _ _ (call (Value.ref 67) _) _ _ _); k_dflt (refine' add_spec _ _ _ _ _ _ _ _ _ _ _ _ _ _ _ _ _ _ _; walk_at "z0"); walk_at "z9"))
local macro_rules | `(tactic| walk_at "call ref") => `(tactic| (k_here; (with_reducible show wpAny _ _ (call (Value.ref 177) _) _ _ _); k_dflt (refine' mul_spec _ _ _ _ _ _ _ _ _ _ _ _ _ _ _ _ _ _ _; walk_at "z0"); walk_at "z9"))
local macro_rules | `(tactic| walk_at "exec Assign cons ListComp") => `(tactic| refine Hold.mk ?_)
local macro_rules | `(tactic| walk_at "eval ListComp") => `(tactic| refine Hold.mk ?_)
local macro_rules | `(tactic| walk_at "CompSrc") => `(tactic| refine Hold.mk ?_)
local macro_rules | `(tactic| walk_at "CompSrcT") => `(tactic| refine Hold.mk ?_)
local macro_rules | `(tactic| walk_at "CompEnd") => `(tactic| refine Hold.mk ?_)
local macro_rules | `(tactic| walk_at "z1") => `(tactic| (with_reducible show Mine.RowsIn _ _ _ _); first | with_reducible assumption | exact Mine.RowsIn.mono (by with_reducible assumption) (fun q hq => by simp [hq]))
local macro_rules | `(tactic| walk_at "compareOp NotEq ref ref") => `(tactic| (k_here; (with_reducible show wpAny _ _ (compareOp CmpOp.NotEq (Value.ref _) (Value.ref _)) _ _ _); k_dflt (first
  | (refine' ne_same _ _ _ _ _ _ _ _ _ _ _; walk_at "z0"; refine Hold.out ?_)
  | (refine' ne_rows _ _ _ _ _ _ _ _ _; walk_at "z0"; refine Hold.out ?_)
  | (refine Hold.mk ?_))))
local macro_rules | `(tactic| walk_at "compareOp Eq ref ref") => `(tactic| (k_here; (with_reducible show wpAny _ _ (compareOp CmpOp.Eq (Value.ref _) (Value.ref _)) _ _ _); k_dflt (refine' eq_ints _ _ _ _ _ _ _ _ _ _; walk_at "z0"; refine Hold.out ?_)))
local macro_rules | `(tactic| walk_at "subscriptTail Name Slice ref ref") => `(tactic| (k_here; (with_reducible show wpAny _ _ (subscriptTail _ (PySem.Expr.Slice none none (some _) _) (Value.ref _) (Value.ref _)) _ _ _); k_dflt (refine' rev_rows ?F ?N ?l ?k ?z ?_ ?s ?t; (case F => k_asm); (case N => k_asm); (case l => k_mem); (case k => exact IsPart.int _ _); (case z => with_reducible assumption); (case s => with_unfolding_all rfl); (case t => kmk_pure)); intro D' h' F' N' l1; (try k_lt l1)))
local macro_rules | `(tactic| walk_at "subscriptTail") => `(tactic| (k_here; (with_reducible show wpAny _ _ (subscriptTail _ (PySem.Expr.Constant _ _ _) (Value.ref _) (Value.int 0 _)) _ _ _); k_dflt (refine' item_listL ?l ?z1 ?z2 ?x ?_; (case l => exact News.isList (by k_asm) (by k_mem)); (case z1 => decide); (case z2 => decide); (case x => exact rfl))))
local macro_rules | `(tactic| k_ne) => `(tactic| first | with_reducible assumption | ((try dsimp only); refine neOf (by with_reducible assumption) ?_; repeat (first | exact InA.head | refine InA.tail ?_)) | fail "no apartness")
theorem rules_spec {n m0 k W : Int} {tn tm tk0 tw : Tok} (hn0 : 0 ≤ n) (hn : n ≤ 8) (hm0 : 0 ≤ m0) (hm : m0 ≤ 6) (hk0 : 0 ≤ k) (hk1 : k ≤ n + 2) (hW : 3 ≤ W) (hW' : W ≤ 9) (hd : dp + 60 < recursionLimit) (hu : un + 400 < cLine)
    (ret : ∀ (h' : Heap) (tk' : Nat), Fr h₀ L h' m → News h₀ L h' news → Q (.bool true) { s with heap := h', toks := tk' }) :
    wpAny (model MP w) (ktrTop dp un gd cn cs L a ccd cl outer) (call (.ref 203) [.int n tn, .int m0 tm, .int k tk0, .int W tw]) Q E s := by
  revert X; delta MP; k_fill; intro X
  refine wpAny_call ?_
  k_dflt (refine' code_defC ?k1 ?k2 ?k3 ?k4 ?k5 ?kA ?kF ?kK ?k6 ?k7 ?k8 ?k9 ?kB ?kD ?_ ?c2 ?c3 ?c4; (case kA => exact rfl); (case kF => exact rfl); (case kK => assumption); (case k1 => k_asm); (case k2 => k_asm); (case k3 => k_asm); (case k4 => k_asm); (case k5 => k_asm); (case k6 => k_is); (case k7 => k_is); (case k8 => ktr_room); (case k9 => exact BindsTo.of_eq rfl); (case kB => exact rfl); (case kD => decide +kernel); (case c2 => exact rfl); (case c3 => exact rfl); (case c4 => exact rfl); k_whole; intro g' L' h' tk' cells' FG' F' N' Y' B' X' T' l1; k_cells Y'; (try simp only [List.cons_append, List.nil_append] at N'); (try dsimp only); (try k_fold))
  obtain ⟨hB, hB'⟩ := pw hW hW'
  have hbb := binI_le
  k_steps
  refine Hold.out ?_
  k_dflt (refine LCg.Assign_ListComp_U (F₀ := by k_asm) (by rfl) (by with_unfolding_all rfl) (by with_unfolding_all rfl) (by decide) (by rfl) (by decide) (by rfl) (by rfl) (by rfl) ?_)
  k_steps
  rename Fr _ _ _ _ => lF
  rename News _ _ _ _ => lN
  rename IsRange _ _ _ _ _ _ _ _ => hRg
  refine Hold.out ?_
  refine LCg.CompSrc.range (n := n.toNat + 1) (by rfl) lF lN hRg (small_pos (by omega) (by omega) (by omega) (by omega) (by omega) (by omega)) (by rw [rangeSize_nat]; omega) (by rw [sizeLine_eq]; omega) fun g => comp_ind _ (fun i ys nw => ∃ led, nw = (adN lN, oN lN) :: (adN lN.tail', oN lN.tail') :: (adN lN.tail'.tail', oN lN.tail'.tail') :: (led ++ news) ∧ RowsIn led (2 ^ W.toNat) ys ((rowN n.toNat).take i)) ?fin ?step _ 0 [] _ (Nat.add_zero _) ⟨[], rfl, .nil⟩
  case step =>
    rintro i ys nw hi ⟨led, rfl, hJ⟩ v I oI C oC D m2 h tk E' hv hNs hmx Fc Nc off ne
    obtain ⟨tx, rfl⟩ := hv
    dsimp only [adN, oN] at Nc off ⊢
    have hi0 : (0 : Int) + (i : Int) = (i : Int) := by omega
    rw [hi0] at hmx
    k_steps
    rename Rep _ _ (binI n.toNat (i : Int).toNat) => hR1
    rename News _ _ _ _ => nE
    rename IntsAre _ _ => hI1
    rename ∀ p ∈ (I, oI) :: _, p.1 ≠ _ => hne
    rw [Int.toNat_natCast] at hR1
    obtain ⟨hb1, hb2⟩ := hbb n.toNat i (by omega)
    have n4 := nE.tail'.tail'.tail'.tail'
    refine Hold.out ?_
    show LCg.CompEnd _ _ _ _ _ _ _ _ _ _ _ _ _ _
    refine LCg.CompEnd.intro (by assumption) nE ((adN n4, oN n4) :: (adN n4.tail', oN n4.tail') :: (adN n4.tail'.tail', oN n4.tail'.tail') :: (((adN nE, oN nE) :: led) ++ news)) ?sub ⟨off.1, off.2.1, off.2.2.1, ⟨(hne _ (.head _)).symm, (hne _ (.tail _ (.head _))).symm, (hne _ (.tail _ (.tail _ (.head _)))).symm⟩, off.2.2.2⟩ trivial ⟨(adN nE, oN nE) :: led, rfl, ?pi⟩
    case sub => intro p hp; simp only [List.cons_append, List.mem_cons, List.mem_append] at hp ⊢; rcases hp with h | h | h | h | h | h | h | h | h <;> simp [h]
    case pi =>
      have e : (rowN n.toNat).take (i + 1) = (rowN n.toNat).take i ++ [binI n.toNat i] := by rw [List.take_add_one]; simp [rowN, hi]
      rw [e]
      exact (hJ.mono mem2).snoc (.head _) hI1 hR1 hb1 (by omega)
  case fin =>
    rintro ys nw ⟨led, rfl, hJ⟩
    intro D h tk FD ND oD
    dsimp only [adN, oN] at ND oD
    rw [List.take_of_length_le (by simp [rowN])] at hJ
    obtain ⟨hr1, hr2, hr3⟩ := row_facts ⟨n.toNat, by omega⟩
    dsimp only at hr1 hr2 hr3
    have hrl : (rowN n.toNat).length ≤ 100 := by simp [rowN]; omega
    have hyl : ys.length ≤ 1000 := by have := hJ.length; omega
    have hJr := hJ.reverse
    rw [hr2] at hJr
    obtain ⟨ra, us, kr, zr, yt, rfl, hmr, hIr, hRr⟩ := hJ.first (by simp [rowN]) hr3
    have hmr2 : (ra, listOf us.toArray kr) ∈ led ++ news := List.mem_append_left _ hmr
    have hkk := hbb n.toNat k.toNat (by omega)
    have hkk1 := hbb n.toNat (k + 1).toNat (by omega)
    have hkk2 := hbb (n + 1).toNat (k + 1).toNat (by omega)
    have hb60 : binI n.toNat k.toNat < 2 ^ 60 := by omega
    have hb61 : binI n.toNat (k + 1).toNat < 2 ^ 60 := by omega
    obtain ⟨hf1, hf2, hf3⟩ := rule_facts ⟨n.toNat, by omega⟩ ⟨k.toNat, by omega⟩
    dsimp only at hf1 hf2 hf3
    have en1 : n.toNat + 1 = (n + 1).toNat := by omega
    have ek1 : k.toNat + 1 = (k + 1).toNat := by omega
    rw [en1, ek1] at hf1
    have hdc : (decide (binI n.toNat k.toNat = 0) != decide (n < k)) = false := by
      have : decide (binI n.toNat k.toNat = 0) = decide (n < k) := decide_eq_decide.mpr (hf2.trans (by omega))
      rw [this]; simp
    k_steps
    rename Fr _ _ _ _ => lF2
    rename News _ _ _ _ => lN2
    rename IsRange _ _ _ _ _ _ _ _ => hRg2
    rename _ < _ ∧ _ < _ ∧ _ < _ ∧ _ < _ ∧ _ < _ ∧ _ < _ ∧ _ < _ ∧ _ < _ ∧ _ < _ ∧ _ < _ ∧ _ < _ ∧ _ < _ ∧ _ < _ ∧ _ < _ ∧ _ < _ ∧ AllLt _ _ => hA2
    have n5 := lN2.tail'.tail'.tail'.tail'.tail'
    have n13 := n5.tail'.tail'.tail'.tail'.tail'.tail'.tail'.tail'
    have hfx : ∀ p ∈ (adN n5, oN n5) :: (adN n13, oN n13) :: (adN n13.tail', oN n13.tail') :: (adN n13.tail'.tail', oN n13.tail'.tail') :: news, p.1 < adN lN2 := fun p hp => by
      obtain ⟨_, _, _, _, h5, _, _, _, _, _, _, _, h13, h14, h15, hal⟩ := hA2
      simp only [List.mem_cons] at hp
      rcases hp with rfl | rfl | rfl | rfl | hp
      · exact h5
      · exact h13
      · exact h14
      · exact h15
      · exact allLt_out hal p (List.mem_append_right _ hp)
    refine Hold.out ?_
    with_unfolding_all refine m_range (σ := RSt) ((adN n5, oN n5) :: (adN n13, oN n13) :: (adN n13.tail', oN n13.tail') :: (adN n13.tail'.tail', oN n13.tail'.tail') :: news) (fun c => (adN lN2, listOf c.vs.toArray c.k) :: c.led) (fun _ => []) [Str.ofString "at"] (fun i c => RowsIn c.led (2 ^ W.toNat) c.vs ((pascN n.toNat m0.toNat k.toNat).take i) ∧ (∀ p ∈ c.led, p.1 ≠ adN lN2)) ⟨[], 0, []⟩ (by rfl) hRg2 (small_pos (by omega) (by omega) (by omega) (by omega) (by omega) (by omega)) lF2 lN2 ?led2 (fun _ hp => nomatch hp) ⟨.nil, fun _ hp => nomatch hp⟩ ?_ ?_
    case led2 => intro p hp; simp only [List.mem_cons, List.mem_append, List.cons_append, List.nil_append] at hp ⊢; rcases hp with h | h | h | h | h | h <;> simp [h]
    · clear lF2
      rintro ⟨vs, kk, led2⟩ i z tz u h tk rest I hz hv ⟨hP2, hoff2⟩ hfix hback ⟨oI, hoI⟩ hMI F1 N1
      dsimp only [ad, adN, oN, List.cons_append, List.nil_append] at hP2 hoff2 hMI F1 N1 hfix hback hfx ⊢
      have hlI := hMI _ (.head _)
      have hi0 : (0 : Int) + (i : Int) = (i : Int) := by omega
      rw [hi0] at hz
      subst hz
      obtain ⟨hb1, hb2⟩ := hbb n.toNat (i : Int).toNat (by omega)
      obtain ⟨hb3, hb4⟩ := hbb m0.toNat (k - (i : Int)).toNat (by omega)
      have hb62 : binI n.toNat (i : Int).toNat < 2 ^ 60 := by omega
      have hb63 : binI m0.toNat (k - (i : Int)).toNat < 2 ^ 60 := by omega
      have hvl : vs.length ≤ 100 := by have h1 := hP2.length; rw [List.length_take] at h1; omega
      have N2 : News _ _ h ((adN N1, oN N1) :: (adN n5, oN n5) :: (adN n13, oN n13) :: (adN n13.tail', oN n13.tail') :: (adN n13.tail'.tail', oN n13.tail'.tail') :: (led2 ++ rest)) := fun p hp => N1 p (by
        have h1 := hfix p
        simp only [List.mem_cons, List.mem_append] at hp h1 ⊢
        rcases hp with h | h | h | h | h | h | h
        · exact .inl h
        · exact .inr (.inr (h1 (.inl h)))
        · exact .inr (.inr (h1 (.inr (.inl h))))
        · exact .inr (.inr (h1 (.inr (.inr (.inl h)))))
        · exact .inr (.inr (h1 (.inr (.inr (.inr (.inl h))))))
        · exact .inr (.inl h)
        · exact .inr (.inr h))
      have hap0 : ∀ p ∈ led2 ++ rest, p.1 ≠ adN N1 := fun p hp => (List.mem_append.mp hp).elim (hoff2 p) (apart_rest' (allNe hfx) (fun h => hlI (List.mem_singleton.mp h)) hback p)
      have hap : ∀ p ∈ (adN n5, oN n5) :: (adN n13, oN n13) :: (adN n13.tail', oN n13.tail') :: (adN n13.tail'.tail', oN n13.tail'.tail') :: (led2 ++ rest), p.1 ≠ adN N1 := fun p hp => by
        have h1 := allNe hfx p
        simp only [List.mem_cons] at hp h1
        rcases hp with h | h | h | h | h
        · exact h1 (.inl h)
        · exact h1 (.inr (.inl h))
        · exact h1 (.inr (.inr (.inl h)))
        · exact h1 (.inr (.inr (.inr (.inl h))))
        · exact hap0 p h
      dsimp only [adN, oN] at N2 hap hap0
      clear N1
      k_steps
      rename News _ _ _ _ => nE
      rename Rep _ _ (_ * _) => hR3
      rename IntsAre _ _ => hI3
      rename ∀ (p : Addr × Obj), p ∈ _ :: _ :: (_, listOf (List.toArray vs) kk) :: _ → p.1 ≠ _ => hne3
      simp only [List.push_toArray] at nE
      have hk3 : (k - (i : Int)).toNat = k.toNat - i := by omega
      have hbp : binI n.toNat (i : Int).toNat * binI m0.toNat (k - (i : Int)).toNat ≤ 4000 * 4000 := Int.mul_le_mul hb2 hb4 hb3 (by omega)
      have hbq : 0 ≤ binI n.toNat (i : Int).toNat * binI m0.toNat (k - (i : Int)).toNat := Int.mul_nonneg hb1 hb3
      have hIm := hne3 (I, oI) (by simp [hoI])
      have hlm := neOf hne3 (.tail (.tail .head))
      refine m_end (⟨vs ++ [.ref (adN nE)], kk + 1, (adN nE, oN nE) :: led2⟩ : RSt) (by assumption) nE ?hn3 ?nI3 (fun _ hp => nomatch hp) ?sm3 ⟨?e3, ?o3⟩
      case hn3 => intro p hp; simp only [List.mem_cons, List.mem_append, List.cons_append] at hp ⊢; rcases hp with h | h | h | h <;> simp [h]
      case nI3 => exact ne_cons hlI (ne_cons hIm.symm (fun p hp => hMI p (.tail _ hp)))
      case sm3 => intro z h2 h3; have h4 := h3; simp only [List.contains_cons, List.contains_nil, Bool.or_false, Bool.or_eq_false_iff, beq_eq_false_iff_ne, ne_eq] at h4; simp [kstB, h3, h4]
      case e3 =>
        have e : (pascN n.toNat m0.toNat k.toNat).take (i + 1) = (pascN n.toNat m0.toNat k.toNat).take i ++ [binI n.toNat (i : Int).toNat * binI m0.toNat (k - (i : Int)).toNat] := by
          rw [List.take_add_one, hk3, Int.toNat_natCast]
          have : i < k.toNat + 1 := by omega
          simp [pascN, this]
        rw [e]
        exact (hP2.mono mem2).snoc (.head _) hI3 hR3 hbq (by omega)
      case o3 => exact ne_cons hlm hoff2
    · clear lF2
      rintro ⟨vs, kk, led2⟩ u h tk ⟨hP2, hoff2⟩ F1 N1
      dsimp only [ad, adN, oN, List.cons_append, List.nil_append] at hP2 hoff2 F1 N1 ⊢
      have hpl : (pascN n.toNat m0.toNat k.toNat).length ≤ 100 := by simp [pascN]; omega
      rw [List.take_of_length_le (by simp [pascN]; omega)] at hP2
      have hpf := pasc_facts ⟨n.toNat, by omega⟩ ⟨m0.toNat, by omega⟩ ⟨k.toNat, by omega⟩
      dsimp only at hpf
      have enm : n.toNat + m0.toNat = (n + m0).toNat := by omega
      rw [enm] at hpf
      have N2 : News _ _ h ((adN N1, oN N1) :: (adN n5, oN n5) :: (adN n13, oN n13) :: (adN n13.tail', oN n13.tail') :: (adN n13.tail'.tail', oN n13.tail'.tail') :: (led2 ++ news)) := fun p hp => N1 p (by
        simp only [List.mem_cons, List.mem_append] at hp ⊢
        rcases hp with h | h | h | h | h | h | h <;> simp [h])
      dsimp only [adN, oN] at N2
      clear N1
      k_steps
      refine Hold.out ?_
      k_dflt (refine LCg.Assign_ListComp_U (F₀ := by k_asm) (by rfl) (by with_unfolding_all rfl) (by with_unfolding_all rfl) (by decide) (by rfl) (by decide) (by rfl) (by rfl) (by rfl) ?_)
      k_steps
      rename Fr _ _ _ _ => lF3
      rename News _ _ _ _ => lN3
      rename IsRange _ _ _ _ _ _ _ _ => hRg3
      have t3 := lN3.tail'.tail'.tail'
      have lN4 : News _ _ _ ((adN t3, oN t3) :: (adN t3.tail', oN t3.tail') :: (adN t3.tail'.tail', oN t3.tail'.tail') :: (adN t3.tail'.tail'.tail', oN t3.tail'.tail'.tail') :: news) := fun p hp => t3 p (by
        simp only [List.mem_cons, List.mem_append] at hp ⊢
        rcases hp with h | h | h | h | h <;> simp [h])
      dsimp only [adN, oN] at lN4
      clear t3
      refine Hold.out ?_
      refine LCg.CompSrc.range (n := n.toNat + 1) (by rfl) lF3 lN4 hRg3 (small_pos (by omega) (by omega) (by omega) (by omega) (by omega) (by omega)) (by rw [rangeSize_nat]; omega) (by rw [sizeLine_eq]; omega) fun g => comp_ind _ (fun i ys nw => ∃ led, nw = (adN lN4, oN lN4) :: (adN lN4.tail', oN lN4.tail') :: (adN lN4.tail'.tail', oN lN4.tail'.tail') :: (adN lN4.tail'.tail'.tail', oN lN4.tail'.tail'.tail') :: (led ++ news) ∧ RowsIn led (2 ^ W.toNat) ys ((stickN n.toNat k.toNat).take i)) ?fin2 ?step2 _ 0 [] _ (Nat.add_zero _) ⟨[], rfl, .nil⟩
      case step2 =>
        clear lN3 hJ hJr hP2
        rintro i ys nw hi ⟨led, rfl, hJ⟩ v I oI C oC D m2 h tk E' hv hNs hmx Fc Nc off ne
        obtain ⟨tx, rfl⟩ := hv
        dsimp only [adN, oN] at Nc off ⊢
        have hi0 : (0 : Int) + (i : Int) = (i : Int) := by omega
        rw [hi0] at hmx
        k_steps
        rename Rep _ _ (binI (i : Int).toNat k.toNat) => hR1
        rename News _ _ _ _ => nE
        rename IntsAre _ _ => hI1
        rename ∀ p ∈ (I, oI) :: _, p.1 ≠ _ => hne
        rw [Int.toNat_natCast] at hR1
        obtain ⟨hb1, hb2⟩ := hbb i k.toNat (by omega)
        have n4 := nE.tail'.tail'.tail'.tail'
        refine Hold.out ?_
        show LCg.CompEnd _ _ _ _ _ _ _ _ _ _ _ _ _ _
        refine LCg.CompEnd.intro (by assumption) nE ((adN n4, oN n4) :: (adN n4.tail', oN n4.tail') :: (adN n4.tail'.tail', oN n4.tail'.tail') :: (adN n4.tail'.tail'.tail', oN n4.tail'.tail'.tail') :: (((adN nE, oN nE) :: led) ++ news)) ?sub2 ⟨off.1, off.2.1, off.2.2.1, off.2.2.2.1, ⟨(hne _ (.head _)).symm, (hne _ (.tail _ (.head _))).symm, (hne _ (.tail _ (.tail _ (.head _)))).symm⟩, off.2.2.2.2⟩ trivial ⟨(adN nE, oN nE) :: led, rfl, ?pi2⟩
        case sub2 => intro p hp; simp only [List.cons_append, List.mem_cons, List.mem_append] at hp ⊢; rcases hp with h | h | h | h | h | h | h | h | h | h <;> simp [h]
        case pi2 =>
          have e : (stickN n.toNat k.toNat).take (i + 1) = (stickN n.toNat k.toNat).take i ++ [binI i k.toNat] := by rw [List.take_add_one]; simp [stickN, hi]
          rw [e]
          exact (hJ.mono mem2).snoc (.head _) hI1 hR1 hb1 (by omega)
      case fin2 =>
        clear lN3 hJ hJr hP2
        rintro ys nw ⟨led, rfl, hJ⟩
        intro D h tk FD ND oD
        dsimp only [adN, oN] at ND oD
        rw [List.take_of_length_le (by simp [stickN])] at hJ
        have hsl : (stickN n.toNat k.toNat).length ≤ 100 := by simp [stickN]; omega
        k_steps
        · have hfin : sumL (stickN n.toNat k.toNat) = binI n.toNat (k + 1).toNat := by rw [hf3, if_pos (by omega), ek1]
          rename News h₀ _ _ _ => kN9
          rw [decide_eq_true hfin]
          exact ret _ _ (by assumption) (fun p hp => kN9 p (by simp [hp]))
        · have hfin : sumL (stickN n.toNat k.toNat) = binI (n + 1).toNat (k + 1).toNat := by rw [hf3, if_neg (by omega), ek1, en1]
          rename News h₀ _ _ _ => kN9
          rw [decide_eq_true hfin]
          exact ret _ _ (by assumption) (fun p hp => kN9 p (by simp [hp]))

end
end Mine
end
section
open PySem PySem.W PyProof.Rows
set_option maxRecDepth 100000
set_option maxHeartbeats 8000000
namespace Mine
def lawBody : List Stmt := match PySem.Challenge.pw_pq0540_01.main.body.getLast? with
  | some (.FunctionDef _ _ body _ _ _ _ _ _ _) => body
  | _ => []
def lawScope : Scope := match PySem.Challenge.pw_pq0540_01.main.body.getLast? with
  | some (.FunctionDef _ _ _ _ _ _ sc _ _ _) => sc
  | _ => PySem.Challenge.pw_pq0540_01.main.scope
abbrev lawEnv (L fa : Addr) : Env := envOfC (Str.ofString "law") lawScope L fa (.ref 207)
theorem lawScope_is : ∃ a b c d e, lawScope = { kind := a, names := b, isGenerator := c, isCoroutine := d, more := e } := ⟨_, _, _, _, _, rfl⟩
end Mine
end
section
open PySem PySem.W PyProof.Rows
namespace Mine
/-- the addresses that are neither the ground's nor the frame's own -/
def junkOf (h₀ h : Heap) (L : Addr) : List Addr := (List.range h.objs.size).filter fun b => (h₀.get? b).isNone && b != L
theorem junk_mem {h₀ h : Heap} {L b : Addr} (hb : b < h.objs.size) (h1 : h₀.get? b = none) (h2 : b ≠ L) : b ∈ junkOf h₀ h L := by
  simp [junkOf, hb, h1, h2]
theorem junk_old {h₀ h : Heap} {L b : Addr} {o : Obj} (e : h₀.get? b = some o) : b ∉ junkOf h₀ h L := by
  simp [junkOf, e]
theorem junk_own {h₀ h : Heap} {L : Addr} : L ∉ junkOf h₀ h L := by
  simp [junkOf]
theorem junk_less {h₀ h : Heap} {L L' b : Addr} {m : Str → Option Value} {o : Obj} (keep : ∀ b o, h₀.get? b = some o → h.get? b = some o) (e : (hideAll h (junkOf h₀ h L)).get? b = some o) (hb : b ≠ L) : h₀.get? b = some o := by
  have e1 := of_hideAll _ e
  cases q : h₀.get? b with
  | some o' => have := keep b o' q; rw [e1] at this; exact this.symm ▸ rfl
  | none =>
    have := hideAll_none (h := h) (junkOf h₀ h L) (junk_mem (Heap.lt_size e1) q hb)
    rw [this] at e; cases e
section
variable {prog : Program} {w : World} {A₀ A : Around} {s : Shared} {h₀ : Heap} {env : Env} {L : Addr} {m : Str → Option Value} {news : List (Addr × Obj)} {K : Frag} {p : Program} {loose : List Str} {mean : ExcName → Option Value} {mg mb : Str → Option Value}
    {R : Result → Shared → Prop} {name qual : Str} {params : Arguments} {body : List Stmt} {scope : Scope} {dV kV doc pm cdv ct oc : Value} {an od : Option Addr} {osl : Array (Option Value)} {f : Addr} {args : Args} {binds : List (Str × Value)}
theorem code_defR (B : Below A₀ h₀ [] h₀) (F : Fr h₀ L s.heap m) (X₀ : K.In h₀) (N : News h₀ L s.heap news) (T : Top p loose mean mg mb h₀) (hA : A.frames = some [env]) (hf : env.frame = some L) (hke : env.scope.kind = .function)
    (ho : K.lookup f = some ⟨oc, od, .func (fnOf name qual params body scope dV kV doc pm an cdv ct), osl⟩) (hcd : codeIn K cdv qual = true) (hroom : A.depth < recursionLimit)
    (hbind : BindsTo s (fnOf name qual params body scope dV kV doc pm an cdv ct) args binds) (hloc : ∀ y ∈ binds, scope.names.lookup y.1 = some .local)
    (h : ∀ g L' h₁, Fr g L' h₁ (fun y => binds.reverse.lookup y) → News g L' h₁ news → Below A h₀ [env] g → K.In g → Top p loose mean mg mb g → KtsDicts ([env].filterMap (·.frame)) g → (∀ b o, g.get? b = some o → b ≠ L → h₀.get? b = some o) →
      wpAny (model prog w) (A.deeper (envOf qual scope L' f cdv)) (execs body (envOf qual scope L' f cdv))
        (fun fl s' => LeaveS0 ([env].filterMap (·.frame)) h₀ L m g R (match fl with | .ret v => v | _ => .none) s')
        (fun e s' => wpAny (model prog w) (A.deeper (envOf qual scope L' f cdv)) (leaving (envOf qual scope L' f cdv) e) (fun _ s'' => R (.error e) s'') (fun e' s'' => R (.error e') s'') s')
        { s with heap := h₁, toks := s.toks + binds.length })
    (hco : scope.isCoroutine = false) (hgen : scope.isGenerator = false) (hk : scope.kind = .function)
    (hcell : ∀ x ∈ scope.names, x.2 ≠ .cell) : codeAny (model prog w) A (.call (.ref f) args) R s := by
  have X := X₀.keeps F.keep
  refine codeAny_call_def (fd := fnOf name qual params body scope dV kV doc pm an cdv ct) (body := body) (binds := binds) hroom (X _ _ ho) rfl (T.nolimit.keeps F.keep) (codeRec_of X hcd) rfl hbind hcell hloc (fun h₁ hns hk₁ => ?_) hco hgen hk
  let J := junkOf h₀ s.heap L
  have st : h₀.StaysIn (hideAll s.heap J) := fun b o e => hideAll_get _ (F.keep b o e) (junk_old e)
  obtain ⟨oL, es, ep, hL, hLd, hLk, hLf⟩ := F.ns
  have hLg : (hideAll s.heap J).get? L = some oL := hideAll_get _ hL junk_own
  have nL₀ : h₀.get? L = none := by
    cases q : h₀.get? L with
    | none => rfl
    | some o => exact absurd (Nat.lt_of_lt_of_le (Heap.lt_size q) F.above) (Nat.lt_irrefl _)
  have B₁ := pushX B F hf hke
  have hin : ∀ b, b ∈ [env].filterMap (·.frame) → b = L := fun b hb => by
    simp [hf] at hb; exact hb
  have B₂ : Below A h₀ [env] (hideAll s.heap J) := ⟨hA, st, funFrames_hideAll B₁.frames fun env' he b hb hf' => by
    rw [List.mem_singleton.mp he, hf] at hf'
    exact junk_own ((Option.some.inj hf').symm ▸ hb)⟩
  refine wpAny_mono (h _ s.heap.objs.size h₁ ⟨hns, fun b o e => hk₁ b o (of_hideAll _ e), Nat.le_of_eq (hideAll_size _ _)⟩
    (fun p hp => ⟨hk₁ _ _ (N p hp).1, Nat.ne_of_lt (Heap.lt_size (N p hp).1), hideAll_none _ (junk_mem (Heap.lt_size (N p hp).1) (N p hp).2.2 (N p hp).2.1)⟩) B₂ (X₀.keeps st) (T.keeps st)
    (fun b hb => ⟨oL, es, ep, (hin b hb).symm ▸ hLg, hLd⟩) (fun b o e hb => junk_less (L' := L) (m := m) F.keep e hb)) (fun fl s' hl => ?_) fun _ _ y => y
  obtain ⟨g', L', m', news', T', F', N', k⟩ := hl
  obtain ⟨sl, hs⟩ := T'.up hLg
  refine k ⟨⟨_, es, ep, F'.keep _ _ hs, hLd, hLk, hLf⟩, fun b o e => F'.keep b o (T'.other b o (st b o e) (fun q => by rw [hin b q, nL₀] at e; cases e)), F.above⟩ fun p hp => ⟨(N' p hp).1, fun q => ?_, ?_⟩
  · have := (N' p hp).2.2; rw [q, hs] at this; cases this
  · cases q : h₀.get? p.1 with
    | none => rfl
    | some o =>
      obtain ⟨sl', hs'⟩ := T'.up (st _ _ q)
      have := (N' p hp).2.2
      rw [hs'] at this
      cases this
theorem leave_onX {M : Model} {A : Around} {E : Value → Shared → Prop} {s' : Shared} {base g g₂ : Heap} {outer : List Env} {L a e t : Addr} {m : Str → Option Value} {name : Str} {scope : Scope} {cd : Value} {cl : List (Str × Addr)} {Q : Unit → Shared → Prop} {news : List (Addr × Obj)} {cls : Value} {vs : List Value}
    (K : Below A base outer g) (F : Fr g L g₂ m) (R : RaisedK base (envX name scope L a cd cl :: outer) e cls t vs news s'.heap) (hsm : g₂.UpToSlots s'.heap)
    (hQ : ∀ h', RaisedK base outer e cls t vs news h' → g.UpToSlots h' → Q () { s' with heap := h' }) :
    wpAny M (A.deeper (envX name scope L a cd cl)) (leaving (envX name scope L a cd cl) (.ref e)) Q E s' :=
  match R with
  | ⟨⟨B, hB, hl, hfl, hnew⟩, htup⟩ => wpAny_leaves_onW (Around.frames_deeper K.stack) rfl hfl fun h' x1 x2 => hQ h' ⟨⟨B, hB, hl, x1, hnew⟩, htup.of_slots x2⟩ ((Heap.UpToSlots.of_keeps F.keep).trans (hsm.trans x2))
/-- what the ground needs of a raise that comes from a callee -/
theorem raisedS_of {base g g₂ h : Heap} {env : Env} {L L' a : Addr} {m : Str → Option Value} {scope : Scope} {cd : Value} {e t : Addr} {cls : Value} {vs : List Value} (hf : env.frame = some L) (F : Fr g L' g₂ m) (hmin : ∀ b o, g.get? b = some o → b ≠ L → base.get? b = some o)
    (R : RaisedK base [envOf qual scope L' a cd, env] e cls t vs news h) (hn : ∀ q ∈ news, g.get? q.1 = none ∧ q.1 ≠ L') (U : g₂.UpToSlots h) :
    RaisedS base (hideAll g₂ (junkOf g g₂ L')) [envOf qual scope L' a cd, env] e cls t vs news h ∧ Fr g L' (hideAll g₂ (junkOf g g₂ L')) m ∧ (hideAll g₂ (junkOf g g₂ L')).UpToSlots h := by
  obtain ⟨⟨B, hB, hl, hfl, hnew⟩, htup⟩ := R
  obtain ⟨oL, es, ep, hL, hLd, hLk, hLf⟩ := F.ns
  refine ⟨⟨⟨B, hB, fun b o q nm => ?_, fun q hq => ⟨(hl q hq).1, ?_, (hl q hq).2⟩, hfl, hnew⟩, htup⟩, ⟨⟨oL, es, ep, hideAll_get _ hL junk_own, hLd, hLk, hLf⟩, fun b o e => hideAll_get _ (F.keep b o e) (junk_old e), F.above⟩, ?_⟩
  · have e1 : b ≠ L' := fun e => nm (e ▸ .head _)
    have e2 : b ≠ L := fun e => nm (e ▸ by simp [hf])
    exact hB b o (hmin b o (junk_less (L' := L) (m := m) F.keep q e1) e2)
  · cases q1 : (hideAll g₂ (junkOf g g₂ L')).get? q.1 with
    | none => rfl
    | some o =>
      have := junk_less (L' := L) (m := m) F.keep q1 (hn q hq).2
      rw [(hn q hq).1] at this; cases this
  · exact fun b o e => U b o (of_hideAll _ e)
end
end Mine
end
section
theorem Mine.w_off11 : True := by
  w_top off
  exact trivial
open PySem PySem.W PyProof.Rows
set_option maxRecDepth 100000
set_option maxHeartbeats 8000000
namespace Mine
def refScope : Scope := match (PySem.Challenge.pw_pq0540_01.main.body[28]? : Option PySem.Stmt) with
  | some (.FunctionDef _ _ _ _ _ _ sc _ _ _) => sc
  | _ => PySem.Challenge.pw_pq0540_01.main.scope
section
variable {w : World} {p : Program} {loose : List Str} {mean : ExcName → Option Value} {mg mb : Str → Option Value} {A : Around} {env : Env} {h₀ : Heap} {L f : Addr} {m : Str → Option Value} {news : List (Addr × Obj)} {s : Shared} {Q E : Value → Shared → Prop}
abbrev refEnv (L : Addr) : Env := envOf (Str.ofString "_law_refused") refScope L 198 (.ref 197)
def TaskRaises (w : World) (p : Program) (loose : List Str) (mean : ExcName → Option Value) (mg mb : Str → Option Value) (A : Around) (env : Env) (h₀ : Heap) (f : Addr) (news : List (Addr × Obj)) (s : Shared) : Prop :=
  ∀ (g h₁ : Heap) (L' : Addr) (tk : Nat) (m' : Str → Option Value) (Q E : Value → Shared → Prop), Fr g L' h₁ m' → News g L' h₁ news → Below A h₀ [env] g → (hd.heap_39 w.params).In g → Top p loose mean mg mb g →
   (∀ e t vs g₂ h' tk', Fr g L' g₂ m' → RaisedK h₀ [refEnv L', env] e (.ref 37) t vs news h' → g₂.UpToSlots h' → E (.ref e) { s with heap := h', toks := tk' }) →
   wpAny (model MP w) (A.deeper (refEnv L')) (call (.ref f) []) Q E { s with heap := h₁, toks := tk }
theorem refused_spec (B : Below callerA h₀ [] h₀) (F : Fr h₀ L s.heap m) (X : (hd.heap_39 w.params).In h₀) (N : News h₀ L s.heap news) (T : Top p loose mean mg mb h₀) (hA : A.frames = some [env]) (hf : env.frame = some L) (hke : env.scope.kind = .function)
    (hd : A.depth + 20 < recursionLimit) (hu : A.units + 50 < cLine) {oc : Value} {od : Option Addr} {fd : FuncData} {sl : Array (Option Value)} (hfm : (f, (⟨oc, od, .func fd, sl⟩ : Obj)) ∈ news) (task : TaskRaises w p loose mean mg mb A env h₀ f news s) (ret : ∀ (h' : Heap) (tk' : Nat), Fr h₀ L h' m → News h₀ L h' news → Q (.bool true) { s with heap := h', toks := tk' }) :
    wpAny (model MP w) A (call (.ref 198) [.ref f]) Q E s := by
  unfold TaskRaises at task
  unfold refEnv at task
  have hsc : refScope = PySem.Scope.mk _ _ _ _ _ := rfl
  rw [hsc] at task
  clear hsc
  obtain ⟨sh, sg, sd, st, so⟩ := s
  dsimp only at F N task ret
  revert X task; delta MP; k_fill; intro X task
  refine wpAny_call ?_
  k_dflt (refine' code_defR B F X N T hA hf hke ?k6 ?k7 ?k8 ?k9 ?kB ?_ ?c2 ?c3 ?c4 ?c5; (case k6 => k_is); (case k7 => k_is); (case k8 => omega); (case k9 => exact BindsTo.of_eq rfl); (case kB => exact locs rfl); (case c2 => exact rfl); (case c3 => exact rfl); (case c4 => exact rfl); (case c5 => decide); k_whole; intro g' L' h' F' N' B' X' T' D' M'; (try dsimp only); (try k_fold))
  k_steps
  refine callWith_F0 (FnAt.of (by assumption) hfm) ?_
  refine task _ _ _ _ _ _ _ (by assumption) (by assumption) (by assumption) (by assumption) (by assumption) ?_
  clear task
  intro e t vs g₂ h2 tk2 Fg R U
  have hn : ∀ q ∈ news, g'.get? q.1 = none ∧ q.1 ≠ L' := fun q hq => ⟨(N' q hq).2.2, (N' q hq).2.1⟩
  obtain ⟨R2, F2, U2⟩ := raisedS_of (m := _) hf Fg M' R hn U
  clear R U Fg
  k_steps
  exact ret _ _ (by assumption) (by assumption)
end

end Mine
end
section
theorem Mine.w_off12 : True := by
  w_top off
  exact trivial
open PySem PySem.W PyProof.Rows
set_option maxRecDepth 100000
set_option maxHeartbeats 8000000
namespace Mine
section
variable {w : World} {p : Program} {loose : List Str} {mean : ExcName → Option Value} {mg mb : Str → Option Value} {h₀ : Heap} {L : Nat} {fa : Addr} {s : Shared} {Q : Flow → Shared → Prop} {u : Str → Option Value}
  {W n k m0 : Int} {tW tn tk0 tm : Tok} {o1 o2 o3 o4 o5 : Obj}
  (B : Below callerA h₀ [] h₀) (X : (hd.heap_39 w.params).In h₀) (T : Top p loose mean mg mb h₀) (C : CodeHd h₀ 207 205) (hL : 205 < L)
  (hW : 3 ≤ W) (hW' : W ≤ 9) (hn0 : 0 ≤ n) (hn : n ≤ 8) (hk0 : 0 ≤ k) (hk : k ≤ n + 2) (hm0 : 0 ≤ m0) (hm : m0 ≤ 6)
  (d1 : o1.data = .cell (some (.int m0 tm))) (d2 : o2.data = .cell none) (d3 : o3.data = .cell (some (.int n tn))) (d4 : o4.data = .cell (some (.int W tW))) (d5 : o5.data = .cell none)
  (F : Fr h₀ L s.heap (fun y => if y = Str.ofString "k" then some (.int k tk0) else u y))
  (N : News h₀ L s.heap [(L + 1 + 1 + 1 + 1 + 1, o5), (L + 1 + 1 + 1 + 1, o4), (L + 1 + 1 + 1, o3), (L + 1 + 1, o2), (L + 1, o1), (205, tabObj #[])])
include B X T C hL hW hW' hn0 hn hk0 hk hm0 hm d1 d2 d3 d4 d5 F N
local macro_rules | `(tactic| walk_at "call ref") => `(tactic| (k_here; (with_reducible show wpAny _ _ (call (Value.ref 177) _) _ _ _); k_dflt (refine' mul_spec _ _ _ _ _ _ _ _ _ _ _ _ _ _ _ _ _ _ _; walk_at "z0"); walk_at "z9"))
local macro_rules | `(tactic| walk_at "call ref") => `(tactic| (k_here; (with_reducible show wpAny _ _ (call (Value.ref 135) _) _ _ _); k_dflt (refine' fact_use _ _ _ _ _ _ _ _ _ _ _ _ _; walk_at "z0"); walk_at "z9"))
local macro_rules | `(tactic| walk_at "call ref") => `(tactic| (k_here; (with_reducible show wpAny _ _ (call (Value.ref 142) _) _ _ _); k_dflt (refine' dfact_spec _ _ _ _ _ _ _ _ _ _ _ _ _; walk_at "z0"); walk_at "z9"))
local macro_rules | `(tactic| walk_at "call ref") => `(tactic| (k_here; (with_reducible show wpAny _ _ (call (Value.ref 128) _) _ _ _); k_dflt (refine' swing_spec _ _ _ _ _ _ _ _ _ _ _ _ _; walk_at "z0"); walk_at "z9"))
local macro_rules | `(tactic| walk_at "call ref") => `(tactic| (k_here; (with_reducible show wpAny _ _ (call (Value.ref 170) _) _ _ _); k_dflt (refine' catalan_spec _ _ _ _ _ _ _ _ _ _ _ _ _; walk_at "z0"); walk_at "z9"))
local macro_rules | `(tactic| walk_at "call ref") => `(tactic| (k_here; (with_reducible show wpAny _ _ (call (Value.ref 149) _) _ _ _); k_dflt (refine' primor_spec _ _ _ _ _ _ _ _ _ _ _ _ _; walk_at "z0"); walk_at "z9"))
local macro_rules | `(tactic| walk_at "call ref") => `(tactic| (k_here; (with_reducible show wpAny _ _ (call (Value.ref 88) _) _ _ _); k_dflt (refine' sieve_use _ _ _ _ _ _ _ _ _ _ _; walk_at "z0"); walk_at "z9"))
local macro_rules | `(tactic| walk_at "call ref") => `(tactic| (k_here; (with_reducible show wpAny _ _ (call (Value.ref 53) _) _ _ _); k_dflt (refine' natof_spec _ _ _ _ _ _ _ _ _ _ _ _ _; walk_at "z0"); walk_at "z9"))
local macro_rules | `(tactic| walk_at "call ref") => `(tactic| (k_here; (with_reducible show wpAny _ _ (call (Value.ref 163) _) _ _ _); k_dflt (refine' binom_spec _ _ _ _ _ _ _ _ _ _ _ _ _ _ _; walk_at "z0"); walk_at "z9"))
local macro_rules | `(tactic| walk_at "call ref") => `(tactic| (k_here; (with_reducible show wpAny _ _ (call (Value.ref 191) _) _ _ _); k_dflt (refine' sum_spec _ _ _ _ _ _ _ _ _ _ _ _ _ _; walk_at "z0"); walk_at "z9"))
local macro_rules | `(tactic| walk_at "call ref") => `(tactic| (k_here; (with_reducible show wpAny _ _ (call (Value.ref 203) _) _ _ _); k_dflt (refine' rules_spec _ _ _ _ _ _ _ _ _ _ _ _ _ _ _ _ _; walk_at "z0"); walk_at "z9"))
local macro_rules | `(tactic| walk_at "z1") => `(tactic| (with_reducible show Mine.RowsIn _ _ _ _); first | with_reducible assumption | exact Mine.RowsIn.mono (by with_reducible assumption) (fun q hq => by simp [hq]))
local macro_rules | `(tactic| walk_at "z1") => `(tactic| first | with_reducible assumption | exact Nat.le_of_ble_eq_true rfl)
local macro_rules | `(tactic| ktr_units) => `(tactic| exact Nat.le_of_ble_eq_true rfl)
local macro_rules | `(tactic| ktr_room) => `(tactic| exact Nat.le_of_ble_eq_true rfl)
local macro_rules | `(tactic| walk_at "callWith ref") => `(tactic| (k_here; k_dflt (refine' callWith_K ?k1 ?k2 ?_; (case k1 => k_asm); (case k2 => k_is); k_whole)))
theorem tail3 (next : ∀ m' h' tk', m' (Str.ofString "k") = some (.int k tk0) → Fr h₀ L h' m' → News h₀ L h' [(L + 1 + 1 + 1 + 1 + 1, o5), (L + 1 + 1 + 1 + 1, o4), (L + 1 + 1 + 1, o3), (L + 1 + 1, o2), (L + 1, o1), (205, tabObj #[])] →
      wpAny (model MP w) (callerA.deeper (lawEnv L fa)) (execs (lawBody.drop 4) (lawEnv L fa)) Q (fun _ _ => False) { s with heap := h', toks := tk' }) :
    wpAny (model MP w) (callerA.deeper (lawEnv L fa)) (execs (lawBody.drop 3) (lawEnv L fa)) Q (fun _ _ => False) s := by
  have hsc : lawScope = PySem.Scope.mk _ _ _ _ _ := rfl
  unfold lawEnv at *
  rw [hsc] at *
  clear hsc
  revert X next; delta MP; k_fill; intro X next
  show wpAny _ _ (execs (_ :: lawBody.drop 4) _) _ _ _
  revert next
  generalize lawBody.drop 4 = lrest
  intro next
  try k_fold
  obtain ⟨sh, sg, sd, st, so⟩ := s
  dsimp only at F N next
  obtain ⟨hB, hB'⟩ := pw hW hW'
  k_steps
  dsimp only
  rename News _ _ _ _ => nZ
  refine next _ _ _ ?_ (by assumption) ?_
  · rfl
  · intro p hp
    simp only [List.mem_cons, List.not_mem_nil, or_false] at hp
    rcases hp with hp | hp | hp | hp | hp | hp <;> exact nZ p (by simp only [hp, List.mem_cons, true_or, or_true])
theorem tail4 (next : ∀ m' h' tk' (rw : Nat) (vsw : List Value) (kkw : Nat) (zsw : List Int), IntsAre vsw zsw → Rep (2 ^ W.toNat) zsw (factN n.toNat : Nat) → m' (Str.ofString "k") = some (.int k tk0) → m' (Str.ofString "whole") = some (.ref rw) → Fr h₀ L h' m' → News h₀ L h' [(rw, listOf vsw.toArray kkw), (L + 1 + 1 + 1 + 1 + 1, o5), (L + 1 + 1 + 1 + 1, o4), (L + 1 + 1 + 1, o3), (L + 1 + 1, o2), (L + 1, o1), (205, tabObj #[])] →
      wpAny (model MP w) (callerA.deeper (lawEnv L fa)) (execs (lawBody.drop 5) (lawEnv L fa)) Q (fun _ _ => False) { s with heap := h', toks := tk' }) :
    wpAny (model MP w) (callerA.deeper (lawEnv L fa)) (execs (lawBody.drop 4) (lawEnv L fa)) Q (fun _ _ => False) s := by
  have hsc : lawScope = PySem.Scope.mk _ _ _ _ _ := rfl
  unfold lawEnv at *
  rw [hsc] at *
  clear hsc
  revert X next; delta MP; k_fill; intro X next
  show wpAny _ _ (execs (_ :: lawBody.drop 5) _) _ _ _
  revert next
  generalize lawBody.drop 5 = lrest
  intro next
  try k_fold
  obtain ⟨sh, sg, sd, st, so⟩ := s
  dsimp only at F N next
  obtain ⟨hB, hB'⟩ := pw hW hW'
  k_steps
  exact next _ _ _ _ _ _ _ (by assumption) (by assumption) rfl rfl (by assumption) (by assumption)

end
end Mine
end
section
theorem Mine.w_off13 : True := by
  w_top off
  exact trivial
open PySem PySem.W PyProof.Rows
set_option maxRecDepth 100000
set_option maxHeartbeats 8000000
namespace Mine
section
variable {w : World} {p : Program} {loose : List Str} {mean : ExcName → Option Value} {mg mb : Str → Option Value} {h₀ : Heap} {L : Nat} {fa : Addr} {s : Shared} {Q : Flow → Shared → Prop} {u : Str → Option Value}
  {W n k m0 : Int} {tW tn tk0 tm : Tok} {o1 o2 o3 o4 o5 : Obj}
  (B : Below callerA h₀ [] h₀) (X : (hd.heap_39 w.params).In h₀) (T : Top p loose mean mg mb h₀) (C : CodeHd h₀ 207 205) (hL : 205 < L)
  (hW : 3 ≤ W) (hW' : W ≤ 9) (hn0 : 0 ≤ n) (hn : n ≤ 8) (hk0 : 0 ≤ k) (hk : k ≤ n + 2) (hm0 : 0 ≤ m0) (hm : m0 ≤ 6)
  (d1 : o1.data = .cell (some (.int m0 tm))) (d2 : o2.data = .cell none) (d3 : o3.data = .cell (some (.int n tn))) (d4 : o4.data = .cell (some (.int W tW))) (d5 : o5.data = .cell none)
  (F : Fr h₀ L s.heap (fun y => if y = Str.ofString "k" then some (.int k tk0) else u y))
  (N : News h₀ L s.heap [(L + 1 + 1 + 1 + 1 + 1, o5), (L + 1 + 1 + 1 + 1, o4), (L + 1 + 1 + 1, o3), (L + 1 + 1, o2), (L + 1, o1), (205, tabObj #[])])
include B X T C hL hW hW' hn0 hn hk0 hk hm0 hm d1 d2 d3 d4 d5 F N
section
variable {rw : Nat} {vsw : List Value} {kkw : Nat} {zsw : List Int} (hIw : IntsAre vsw zsw) (hRw : Rep (2 ^ W.toNat) zsw (factN n.toNat : Nat))
  (Fw : Fr h₀ L s.heap (fun y => if y = Str.ofString "whole" then some (.ref rw) else if y = Str.ofString "k" then some (.int k tk0) else u y))
  (Nw : News h₀ L s.heap [(rw, listOf vsw.toArray kkw), (L + 1 + 1 + 1 + 1 + 1, o5), (L + 1 + 1 + 1 + 1, o4), (L + 1 + 1 + 1, o3), (L + 1 + 1, o2), (L + 1, o1), (205, tabObj #[])])
include hIw hRw Fw Nw
omit F N

local macro_rules | `(tactic| walk_at "call ref") => `(tactic| (k_here; (with_reducible show wpAny _ _ (call (Value.ref 177) _) _ _ _); k_dflt (refine' mul_spec _ _ _ _ _ _ _ _ _ _ _ _ _ _ _ _ _ _ _; walk_at "z0"); walk_at "z9"))
local macro_rules | `(tactic| walk_at "call ref") => `(tactic| (k_here; (with_reducible show wpAny _ _ (call (Value.ref 135) _) _ _ _); k_dflt (refine' fact_use _ _ _ _ _ _ _ _ _ _ _ _ _; walk_at "z0"); walk_at "z9"))
local macro_rules | `(tactic| walk_at "call ref") => `(tactic| (k_here; (with_reducible show wpAny _ _ (call (Value.ref 142) _) _ _ _); k_dflt (refine' dfact_spec _ _ _ _ _ _ _ _ _ _ _ _ _; walk_at "z0"); walk_at "z9"))
local macro_rules | `(tactic| walk_at "call ref") => `(tactic| (k_here; (with_reducible show wpAny _ _ (call (Value.ref 128) _) _ _ _); k_dflt (refine' swing_spec _ _ _ _ _ _ _ _ _ _ _ _ _; walk_at "z0"); walk_at "z9"))
local macro_rules | `(tactic| walk_at "call ref") => `(tactic| (k_here; (with_reducible show wpAny _ _ (call (Value.ref 170) _) _ _ _); k_dflt (refine' catalan_spec _ _ _ _ _ _ _ _ _ _ _ _ _; walk_at "z0"); walk_at "z9"))
local macro_rules | `(tactic| walk_at "call ref") => `(tactic| (k_here; (with_reducible show wpAny _ _ (call (Value.ref 149) _) _ _ _); k_dflt (refine' primor_spec _ _ _ _ _ _ _ _ _ _ _ _ _; walk_at "z0"); walk_at "z9"))
local macro_rules | `(tactic| walk_at "call ref") => `(tactic| (k_here; (with_reducible show wpAny _ _ (call (Value.ref 88) _) _ _ _); k_dflt (refine' sieve_use _ _ _ _ _ _ _ _ _ _ _; walk_at "z0"); walk_at "z9"))
local macro_rules | `(tactic| walk_at "call ref") => `(tactic| (k_here; (with_reducible show wpAny _ _ (call (Value.ref 53) _) _ _ _); k_dflt (refine' natof_spec _ _ _ _ _ _ _ _ _ _ _ _ _; walk_at "z0"); walk_at "z9"))
local macro_rules | `(tactic| walk_at "call ref") => `(tactic| (k_here; (with_reducible show wpAny _ _ (call (Value.ref 163) _) _ _ _); k_dflt (refine' binom_spec _ _ _ _ _ _ _ _ _ _ _ _ _ _ _; walk_at "z0"); walk_at "z9"))
local macro_rules | `(tactic| walk_at "call ref") => `(tactic| (k_here; (with_reducible show wpAny _ _ (call (Value.ref 191) _) _ _ _); k_dflt (refine' sum_spec _ _ _ _ _ _ _ _ _ _ _ _ _ _; walk_at "z0"); walk_at "z9"))
local macro_rules | `(tactic| ktr_units) => `(tactic| exact Nat.le_of_ble_eq_true rfl)
local macro_rules | `(tactic| ktr_room) => `(tactic| exact Nat.le_of_ble_eq_true rfl)
local macro_rules | `(tactic| walk_at "callWith ref") => `(tactic| (k_here; k_dflt (refine' callWith_K ?k1 ?k2 ?_; (case k1 => k_asm); (case k2 => k_is); k_whole)))
local macro_rules | `(tactic| walk_at "z1") => `(tactic| (with_reducible show Mine.RowsIn _ _ _ _); first | with_reducible assumption | exact Mine.RowsIn.mono (by with_reducible assumption) (fun q hq => by simp [hq]))
local macro_rules | `(tactic| walk_at "z1") => `(tactic| first | with_reducible assumption | exact Nat.le_of_ble_eq_true rfl)
local macro_rules | `(tactic| walk_at "compareOp NotEq ref ref") => `(tactic| (k_here; (with_reducible show wpAny _ _ (compareOp CmpOp.NotEq (Value.ref _) (Value.ref _)) _ _ _); k_dflt (first
  | (refine' ne_same _ _ _ _ _ _ _ _ _ _ _; walk_at "z0"; refine Hold.out ?_)
  | (refine' ne_rows _ _ _ _ _ _ _ _ _; walk_at "z0"; refine Hold.out ?_)
  | (refine Hold.mk ?_))))
omit B X T C hL hW hW' hn0 hn hk0 hk hm0 hm d1 d2 d3 d4 d5 hIw hRw Fw Nw in
theorem fact_le8 : ∀ n : Fin 9, factN n.1 ≤ 40320 := by decide +kernel
omit B X T C hL hW hW' hn0 hn hk0 hk hm0 hm d1 d2 d3 d4 d5 hIw hRw Fw Nw in
theorem parts_fact : ∀ n : Fin 9, ∀ k : Fin 9, k.1 ≤ n.1 → ((factN k.1 : Nat) : Int) * (factN (n.1 - k.1) : Nat) * binI n.1 k.1 = (factN n.1 : Nat) ∧ ((factN k.1 : Nat) : Int) * (factN (n.1 - k.1) : Nat) < 2 ^ 60 := by decide +kernel
theorem tail5 (next : ∀ m' h' tk', m' (Str.ofString "k") = some (.int k tk0) → m' (Str.ofString "whole") = some (.ref rw) → Fr h₀ L h' m' → News h₀ L h' [(rw, listOf vsw.toArray kkw), (L + 1 + 1 + 1 + 1 + 1, o5), (L + 1 + 1 + 1 + 1, o4), (L + 1 + 1 + 1, o3), (L + 1 + 1, o2), (L + 1, o1), (205, tabObj #[])] →
      wpAny (model MP w) (callerA.deeper (lawEnv L fa)) (execs (lawBody.drop 6) (lawEnv L fa)) Q (fun _ _ => False) { s with heap := h', toks := tk' }) :
    wpAny (model MP w) (callerA.deeper (lawEnv L fa)) (execs (lawBody.drop 5) (lawEnv L fa)) Q (fun _ _ => False) s := by
  have hsc : lawScope = PySem.Scope.mk _ _ _ _ _ := rfl
  unfold lawEnv at *
  rw [hsc] at *
  clear hsc
  revert X next; delta MP; k_fill; intro X next
  show wpAny _ _ (execs (_ :: lawBody.drop 6) _) _ _ _
  revert next
  generalize lawBody.drop 6 = lrest
  intro next
  try k_fold
  obtain ⟨sh, sg, sd, st, so⟩ := s
  dsimp only at Fw Nw next
  obtain ⟨hB, hB'⟩ := pw hW hW'
  have hbb := binI_le n.toNat k.toNat (by omega)
  have hf0 := fact_le8 ⟨n.toNat, by omega⟩
  dsimp only at hf0
  by_cases hkn : k ≤ n
  · have hf1 := fact_le8 ⟨k.toNat, by omega⟩
    have hf2 := fact_le8 ⟨n.toNat - k.toNat, by omega⟩
    have ⟨hp1, hp2⟩ := parts_fact ⟨n.toNat, by omega⟩ ⟨k.toNat, by omega⟩ (by show k.toNat ≤ n.toNat; omega)
    dsimp only at hf1 hf2 hp1 hp2
    have e1 : n.toNat - k.toNat = (n - k).toNat := by omega
    rw [e1] at hf2 hp1 hp2
    clear e1
    k_steps
    dsimp only
    rename News _ _ _ _ => nZ
    refine next _ _ _ ?_ ?_ (by assumption) ?_
    · rfl
    · rfl
    · intro p hp
      simp only [List.mem_cons, List.not_mem_nil, or_false] at hp
      rcases hp with hp | hp | hp | hp | hp | hp | hp <;> exact nZ p (by simp only [hp, List.mem_cons, true_or, or_true])
  · k_steps
    dsimp only
    rename News _ _ _ _ => nZ
    refine next _ _ _ ?_ ?_ (by assumption) ?_
    · rfl
    · rfl
    · intro p hp
      simp only [List.mem_cons, List.not_mem_nil, or_false] at hp
      rcases hp with hp | hp | hp | hp | hp | hp | hp <;> exact nZ p (by simp only [hp, List.mem_cons, true_or, or_true])

end
end
end Mine
end
section
theorem Mine.w_off14 : True := by
  w_top off
  exact trivial
open PySem PySem.W PyProof.Rows
set_option maxRecDepth 100000
set_option maxHeartbeats 8000000
namespace Mine
section
variable {w : World} {p : Program} {loose : List Str} {mean : ExcName → Option Value} {mg mb : Str → Option Value} {h₀ : Heap} {L : Nat} {fa : Addr} {s : Shared} {Q : Flow → Shared → Prop} {u : Str → Option Value}
  {W n k m0 : Int} {tW tn tk0 tm : Tok} {o1 o2 o3 o4 o5 : Obj}
  (B : Below callerA h₀ [] h₀) (X : (hd.heap_39 w.params).In h₀) (T : Top p loose mean mg mb h₀) (C : CodeHd h₀ 207 205) (hL : 205 < L)
  (hW : 3 ≤ W) (hW' : W ≤ 9) (hn0 : 0 ≤ n) (hn : n ≤ 8) (hk0 : 0 ≤ k) (hk : k ≤ n + 2) (hm0 : 0 ≤ m0) (hm : m0 ≤ 6)
  (d1 : o1.data = .cell (some (.int m0 tm))) (d2 : o2.data = .cell none) (d3 : o3.data = .cell (some (.int n tn))) (d4 : o4.data = .cell (some (.int W tW))) (d5 : o5.data = .cell none)
  (F : Fr h₀ L s.heap (fun y => if y = Str.ofString "k" then some (.int k tk0) else u y))
  (N : News h₀ L s.heap [(L + 1 + 1 + 1 + 1 + 1, o5), (L + 1 + 1 + 1 + 1, o4), (L + 1 + 1 + 1, o3), (L + 1 + 1, o2), (L + 1, o1), (205, tabObj #[])])
include B X T C hL hW hW' hn0 hn hk0 hk hm0 hm d1 d2 d3 d4 d5 F N
section
variable {rw : Nat} {vsw : List Value} {kkw : Nat} {zsw : List Int} (hIw : IntsAre vsw zsw) (hRw : Rep (2 ^ W.toNat) zsw (factN n.toNat : Nat))
  (Fw : Fr h₀ L s.heap (fun y => if y = Str.ofString "whole" then some (.ref rw) else if y = Str.ofString "k" then some (.int k tk0) else u y))
  (Nw : News h₀ L s.heap [(rw, listOf vsw.toArray kkw), (L + 1 + 1 + 1 + 1 + 1, o5), (L + 1 + 1 + 1 + 1, o4), (L + 1 + 1 + 1, o3), (L + 1 + 1, o2), (L + 1, o1), (205, tabObj #[])])
include hIw hRw Fw Nw
omit F N

local macro_rules | `(tactic| walk_at "call ref") => `(tactic| (k_here; (with_reducible show wpAny _ _ (call (Value.ref 177) _) _ _ _); k_dflt (refine' mul_spec _ _ _ _ _ _ _ _ _ _ _ _ _ _ _ _ _ _ _; walk_at "z0"); walk_at "z9"))
local macro_rules | `(tactic| walk_at "call ref") => `(tactic| (k_here; (with_reducible show wpAny _ _ (call (Value.ref 135) _) _ _ _); k_dflt (refine' fact_use _ _ _ _ _ _ _ _ _ _ _ _ _; walk_at "z0"); walk_at "z9"))
local macro_rules | `(tactic| walk_at "call ref") => `(tactic| (k_here; (with_reducible show wpAny _ _ (call (Value.ref 142) _) _ _ _); k_dflt (refine' dfact_spec _ _ _ _ _ _ _ _ _ _ _ _ _; walk_at "z0"); walk_at "z9"))
local macro_rules | `(tactic| walk_at "call ref") => `(tactic| (k_here; (with_reducible show wpAny _ _ (call (Value.ref 128) _) _ _ _); k_dflt (refine' swing_spec _ _ _ _ _ _ _ _ _ _ _ _ _; walk_at "z0"); walk_at "z9"))
local macro_rules | `(tactic| walk_at "call ref") => `(tactic| (k_here; (with_reducible show wpAny _ _ (call (Value.ref 170) _) _ _ _); k_dflt (refine' catalan_spec _ _ _ _ _ _ _ _ _ _ _ _ _; walk_at "z0"); walk_at "z9"))
local macro_rules | `(tactic| walk_at "call ref") => `(tactic| (k_here; (with_reducible show wpAny _ _ (call (Value.ref 149) _) _ _ _); k_dflt (refine' primor_spec _ _ _ _ _ _ _ _ _ _ _ _ _; walk_at "z0"); walk_at "z9"))
local macro_rules | `(tactic| walk_at "call ref") => `(tactic| (k_here; (with_reducible show wpAny _ _ (call (Value.ref 88) _) _ _ _); k_dflt (refine' sieve_use _ _ _ _ _ _ _ _ _ _ _; walk_at "z0"); walk_at "z9"))
local macro_rules | `(tactic| walk_at "call ref") => `(tactic| (k_here; (with_reducible show wpAny _ _ (call (Value.ref 53) _) _ _ _); k_dflt (refine' natof_spec _ _ _ _ _ _ _ _ _ _ _ _ _; walk_at "z0"); walk_at "z9"))
local macro_rules | `(tactic| walk_at "call ref") => `(tactic| (k_here; (with_reducible show wpAny _ _ (call (Value.ref 163) _) _ _ _); k_dflt (refine' binom_spec _ _ _ _ _ _ _ _ _ _ _ _ _ _ _; walk_at "z0"); walk_at "z9"))
local macro_rules | `(tactic| walk_at "call ref") => `(tactic| (k_here; (with_reducible show wpAny _ _ (call (Value.ref 191) _) _ _ _); k_dflt (refine' sum_spec _ _ _ _ _ _ _ _ _ _ _ _ _ _; walk_at "z0"); walk_at "z9"))
local macro_rules | `(tactic| ktr_units) => `(tactic| exact Nat.le_of_ble_eq_true rfl)
local macro_rules | `(tactic| ktr_room) => `(tactic| exact Nat.le_of_ble_eq_true rfl)
local macro_rules | `(tactic| walk_at "callWith ref") => `(tactic| (k_here; k_dflt (refine' callWith_K ?k1 ?k2 ?_; (case k1 => k_asm); (case k2 => k_is); k_whole)))
local macro_rules | `(tactic| walk_at "z1") => `(tactic| (with_reducible show Mine.RowsIn _ _ _ _); first | with_reducible assumption | exact Mine.RowsIn.mono (by with_reducible assumption) (fun q hq => by simp [hq]))
local macro_rules | `(tactic| walk_at "z1") => `(tactic| first | with_reducible assumption | exact Nat.le_of_ble_eq_true rfl)
local macro_rules | `(tactic| walk_at "compareOp NotEq ref ref") => `(tactic| (k_here; (with_reducible show wpAny _ _ (compareOp CmpOp.NotEq (Value.ref _) (Value.ref _)) _ _ _); k_dflt (first
  | (refine' ne_same _ _ _ _ _ _ _ _ _ _ _; walk_at "z0"; refine Hold.out ?_)
  | (refine' ne_rows _ _ _ _ _ _ _ _ _; walk_at "z0"; refine Hold.out ?_)
  | (refine Hold.mk ?_))))
omit B X T C hL hW hW' hn0 hn hk0 hk hm0 hm d1 d2 d3 d4 d5 hIw hRw Fw Nw in
theorem dfact_step : ∀ n : Fin 9, 0 < n.1 → ((dfactN n.1 : Nat) : Int) * (dfactN (n.1 - 1) : Nat) = (factN n.1 : Nat) ∧ dfactN n.1 ≤ 40320 ∧ dfactN (n.1 - 1) ≤ 40320 := by decide +kernel
theorem tail6 (next : ∀ m' h' tk', m' (Str.ofString "k") = some (.int k tk0) → m' (Str.ofString "whole") = some (.ref rw) → Fr h₀ L h' m' → News h₀ L h' [(rw, listOf vsw.toArray kkw), (L + 1 + 1 + 1 + 1 + 1, o5), (L + 1 + 1 + 1 + 1, o4), (L + 1 + 1 + 1, o3), (L + 1 + 1, o2), (L + 1, o1), (205, tabObj #[])] →
      wpAny (model MP w) (callerA.deeper (lawEnv L fa)) (execs (lawBody.drop 7) (lawEnv L fa)) Q (fun _ _ => False) { s with heap := h', toks := tk' }) :
    wpAny (model MP w) (callerA.deeper (lawEnv L fa)) (execs (lawBody.drop 6) (lawEnv L fa)) Q (fun _ _ => False) s := by
  have hsc : lawScope = PySem.Scope.mk _ _ _ _ _ := rfl
  unfold lawEnv at *
  rw [hsc] at *
  clear hsc
  revert X next; delta MP; k_fill; intro X next
  show wpAny _ _ (execs (_ :: lawBody.drop 7) _) _ _ _
  revert next
  generalize lawBody.drop 7 = lrest
  intro next
  try k_fold
  obtain ⟨sh, sg, sd, st, so⟩ := s
  dsimp only at Fw Nw next
  obtain ⟨hB, hB'⟩ := pw hW hW'
  by_cases hnp : 0 < n
  · have ⟨hp1, hp2, hp3⟩ := dfact_step ⟨n.toNat, by omega⟩ (by show 0 < n.toNat; omega)
    dsimp only at hp1 hp2 hp3
    have e1 : n.toNat - 1 = (n - 1).toNat := by omega
    rw [e1] at hp1 hp3
    clear e1
    k_steps
    dsimp only
    rename News _ _ _ _ => nZ
    refine next _ _ _ ?_ ?_ (by assumption) ?_
    · rfl
    · rfl
    · intro p hp
      simp only [List.mem_cons, List.not_mem_nil, or_false] at hp
      rcases hp with hp | hp | hp | hp | hp | hp | hp <;> exact nZ p (by simp only [hp, List.mem_cons, true_or, or_true])
  · k_steps
    dsimp only
    rename News _ _ _ _ => nZ
    refine next _ _ _ ?_ ?_ (by assumption) ?_
    · rfl
    · rfl
    · intro p hp
      simp only [List.mem_cons, List.not_mem_nil, or_false] at hp
      rcases hp with hp | hp | hp | hp | hp | hp | hp <;> exact nZ p (by simp only [hp, List.mem_cons, true_or, or_true])

end
end
end Mine
end
section
theorem Mine.w_off15 : True := by
  w_top off
  exact trivial
open PySem PySem.W PyProof.Rows
set_option maxRecDepth 100000
set_option maxHeartbeats 8000000
namespace Mine
section
variable {w : World} {p : Program} {loose : List Str} {mean : ExcName → Option Value} {mg mb : Str → Option Value} {h₀ : Heap} {L : Nat} {fa : Addr} {s : Shared} {Q : Flow → Shared → Prop} {u : Str → Option Value}
  {W n k m0 : Int} {tW tn tk0 tm : Tok} {o1 o2 o3 o4 o5 : Obj}
  (B : Below callerA h₀ [] h₀) (X : (hd.heap_39 w.params).In h₀) (T : Top p loose mean mg mb h₀) (C : CodeHd h₀ 207 205) (hL : 205 < L)
  (hW : 3 ≤ W) (hW' : W ≤ 9) (hn0 : 0 ≤ n) (hn : n ≤ 8) (hk0 : 0 ≤ k) (hk : k ≤ n + 2) (hm0 : 0 ≤ m0) (hm : m0 ≤ 6)
  (d1 : o1.data = .cell (some (.int m0 tm))) (d2 : o2.data = .cell none) (d3 : o3.data = .cell (some (.int n tn))) (d4 : o4.data = .cell (some (.int W tW))) (d5 : o5.data = .cell none)
  (F : Fr h₀ L s.heap (fun y => if y = Str.ofString "k" then some (.int k tk0) else u y))
  (N : News h₀ L s.heap [(L + 1 + 1 + 1 + 1 + 1, o5), (L + 1 + 1 + 1 + 1, o4), (L + 1 + 1 + 1, o3), (L + 1 + 1, o2), (L + 1, o1), (205, tabObj #[])])
include B X T C hL hW hW' hn0 hn hk0 hk hm0 hm d1 d2 d3 d4 d5 F N
section
variable {rw : Nat} {vsw : List Value} {kkw : Nat} {zsw : List Int} (hIw : IntsAre vsw zsw) (hRw : Rep (2 ^ W.toNat) zsw (factN n.toNat : Nat))
  (Fw : Fr h₀ L s.heap (fun y => if y = Str.ofString "whole" then some (.ref rw) else if y = Str.ofString "k" then some (.int k tk0) else u y))
  (Nw : News h₀ L s.heap [(rw, listOf vsw.toArray kkw), (L + 1 + 1 + 1 + 1 + 1, o5), (L + 1 + 1 + 1 + 1, o4), (L + 1 + 1 + 1, o3), (L + 1 + 1, o2), (L + 1, o1), (205, tabObj #[])])
include hIw hRw Fw Nw
omit F N

local macro_rules | `(tactic| walk_at "call ref") => `(tactic| (k_here; (with_reducible show wpAny _ _ (call (Value.ref 177) _) _ _ _); k_dflt (refine' mul_spec _ _ _ _ _ _ _ _ _ _ _ _ _ _ _ _ _ _ _; walk_at "z0"); walk_at "z9"))
local macro_rules | `(tactic| walk_at "call ref") => `(tactic| (k_here; (with_reducible show wpAny _ _ (call (Value.ref 135) _) _ _ _); k_dflt (refine' fact_use _ _ _ _ _ _ _ _ _ _ _ _ _; walk_at "z0"); walk_at "z9"))
local macro_rules | `(tactic| walk_at "call ref") => `(tactic| (k_here; (with_reducible show wpAny _ _ (call (Value.ref 142) _) _ _ _); k_dflt (refine' dfact_spec _ _ _ _ _ _ _ _ _ _ _ _ _; walk_at "z0"); walk_at "z9"))
local macro_rules | `(tactic| walk_at "call ref") => `(tactic| (k_here; (with_reducible show wpAny _ _ (call (Value.ref 128) _) _ _ _); k_dflt (refine' swing_spec _ _ _ _ _ _ _ _ _ _ _ _ _; walk_at "z0"); walk_at "z9"))
local macro_rules | `(tactic| walk_at "call ref") => `(tactic| (k_here; (with_reducible show wpAny _ _ (call (Value.ref 170) _) _ _ _); k_dflt (refine' catalan_spec _ _ _ _ _ _ _ _ _ _ _ _ _; walk_at "z0"); walk_at "z9"))
local macro_rules | `(tactic| walk_at "call ref") => `(tactic| (k_here; (with_reducible show wpAny _ _ (call (Value.ref 149) _) _ _ _); k_dflt (refine' primor_spec _ _ _ _ _ _ _ _ _ _ _ _ _; walk_at "z0"); walk_at "z9"))
local macro_rules | `(tactic| walk_at "call ref") => `(tactic| (k_here; (with_reducible show wpAny _ _ (call (Value.ref 88) _) _ _ _); k_dflt (refine' sieve_use _ _ _ _ _ _ _ _ _ _ _; walk_at "z0"); walk_at "z9"))
local macro_rules | `(tactic| walk_at "call ref") => `(tactic| (k_here; (with_reducible show wpAny _ _ (call (Value.ref 53) _) _ _ _); k_dflt (refine' natof_spec _ _ _ _ _ _ _ _ _ _ _ _ _; walk_at "z0"); walk_at "z9"))
local macro_rules | `(tactic| walk_at "call ref") => `(tactic| (k_here; (with_reducible show wpAny _ _ (call (Value.ref 163) _) _ _ _); k_dflt (refine' binom_spec _ _ _ _ _ _ _ _ _ _ _ _ _ _ _; walk_at "z0"); walk_at "z9"))
local macro_rules | `(tactic| walk_at "call ref") => `(tactic| (k_here; (with_reducible show wpAny _ _ (call (Value.ref 191) _) _ _ _); k_dflt (refine' sum_spec _ _ _ _ _ _ _ _ _ _ _ _ _ _; walk_at "z0"); walk_at "z9"))
local macro_rules | `(tactic| ktr_units) => `(tactic| exact Nat.le_of_ble_eq_true rfl)
local macro_rules | `(tactic| ktr_room) => `(tactic| exact Nat.le_of_ble_eq_true rfl)
local macro_rules | `(tactic| walk_at "callWith ref") => `(tactic| (k_here; k_dflt (refine' callWith_K ?k1 ?k2 ?_; (case k1 => k_asm); (case k2 => k_is); k_whole)))
local macro_rules | `(tactic| walk_at "z1") => `(tactic| (with_reducible show Mine.RowsIn _ _ _ _); first | with_reducible assumption | exact Mine.RowsIn.mono (by with_reducible assumption) (fun q hq => by simp [hq]))
local macro_rules | `(tactic| walk_at "z1") => `(tactic| first | with_reducible assumption | exact Nat.le_of_ble_eq_true rfl)
local macro_rules | `(tactic| walk_at "compareOp NotEq ref ref") => `(tactic| (k_here; (with_reducible show wpAny _ _ (compareOp CmpOp.NotEq (Value.ref _) (Value.ref _)) _ _ _); k_dflt (first
  | (refine' ne_same _ _ _ _ _ _ _ _ _ _ _; walk_at "z0"; refine Hold.out ?_)
  | (refine' ne_rows _ _ _ _ _ _ _ _ _; walk_at "z0"; refine Hold.out ?_)
  | (refine Hold.mk ?_))))
omit B X T C hL hW hW' hn0 hn hk0 hk hm0 hm d1 d2 d3 d4 d5 hIw hRw Fw Nw in
theorem fact_le8' : ∀ n : Fin 9, factN n.1 ≤ 40320 := by decide +kernel
omit B X T C hL hW hW' hn0 hn hk0 hk hm0 hm d1 d2 d3 d4 d5 hIw hRw Fw Nw in
theorem swing_step : ∀ n : Fin 9, prodP (swP n.1) * (((factN (n.1 / 2) : Nat) : Int) * (factN (n.1 / 2) : Nat)) = (factN n.1 : Nat) ∧ prodP (swP n.1) ≤ 100000 ∧ ((factN (n.1 / 2) : Nat) : Int) * (factN (n.1 / 2) : Nat) < 2 ^ 60 ∧ factN (n.1 / 2) ≤ 40320 := by decide +kernel
theorem tail7 (next : ∀ m' h' tk', m' (Str.ofString "k") = some (.int k tk0) → Fr h₀ L h' m' → News h₀ L h' [(L + 1 + 1 + 1 + 1 + 1, o5), (L + 1 + 1 + 1 + 1, o4), (L + 1 + 1 + 1, o3), (L + 1 + 1, o2), (L + 1, o1), (205, tabObj #[])] →
      wpAny (model MP w) (callerA.deeper (lawEnv L fa)) (execs (lawBody.drop 9) (lawEnv L fa)) Q (fun _ _ => False) { s with heap := h', toks := tk' }) :
    wpAny (model MP w) (callerA.deeper (lawEnv L fa)) (execs (lawBody.drop 7) (lawEnv L fa)) Q (fun _ _ => False) s := by
  have hsc : lawScope = PySem.Scope.mk _ _ _ _ _ := rfl
  unfold lawEnv at *
  rw [hsc] at *
  clear hsc
  revert X next; delta MP; k_fill; intro X next
  show wpAny _ _ (execs (_ :: _ :: lawBody.drop 9) _) _ _ _
  revert next
  generalize lawBody.drop 9 = lrest
  intro next
  try k_fold
  obtain ⟨sh, sg, sd, st, so⟩ := s
  dsimp only at Fw Nw next
  obtain ⟨hB, hB'⟩ := pw hW hW'
  have ⟨hp1, hp2, hp3, hp4⟩ := swing_step ⟨n.toNat, by omega⟩
  dsimp only at hp1 hp2 hp3 hp4
  have hq0 : 0 ≤ n.fdiv 2 := by rw [Int.fdiv_eq_ediv_of_nonneg _ (by omega)]; omega
  have hq2 : n.fdiv 2 ≤ 14 := by rw [Int.fdiv_eq_ediv_of_nonneg _ (by omega)]; omega
  have hq1 : n.toNat / 2 = (n.fdiv 2).toNat := by rw [Int.fdiv_eq_ediv_of_nonneg _ (by omega)]; omega
  rw [hq1] at hp1 hp3 hp4
  k_steps
  dsimp only
  rename News _ _ _ _ => nZ
  refine next _ _ _ ?_ (by assumption) ?_
  · rfl
  · intro p hp
    simp only [List.mem_cons, List.not_mem_nil, or_false] at hp
    rcases hp with hp | hp | hp | hp | hp | hp <;> exact nZ p (by simp only [hp, List.mem_cons, true_or, or_true])

end
end
end Mine
end
section
theorem Mine.w_off16 : True := by
  w_top off
  exact trivial
open PySem PySem.W PyProof.Rows
set_option maxRecDepth 100000
set_option maxHeartbeats 8000000
namespace Mine
section
variable {w : World} {p : Program} {loose : List Str} {mean : ExcName → Option Value} {mg mb : Str → Option Value} {h₀ : Heap} {L : Nat} {fa : Addr} {s : Shared} {Q : Flow → Shared → Prop} {u : Str → Option Value}
  {W n k m0 : Int} {tW tn tk0 tm : Tok} {o1 o2 o3 o4 o5 : Obj}
  (B : Below callerA h₀ [] h₀) (X : (hd.heap_39 w.params).In h₀) (T : Top p loose mean mg mb h₀) (C : CodeHd h₀ 207 205) (hL : 205 < L)
  (hW : 3 ≤ W) (hW' : W ≤ 9) (hn0 : 0 ≤ n) (hn : n ≤ 8) (hk0 : 0 ≤ k) (hk : k ≤ n + 2) (hm0 : 0 ≤ m0) (hm : m0 ≤ 6)
  (d1 : o1.data = .cell (some (.int m0 tm))) (d2 : o2.data = .cell none) (d3 : o3.data = .cell (some (.int n tn))) (d4 : o4.data = .cell (some (.int W tW))) (d5 : o5.data = .cell none)
  (F : Fr h₀ L s.heap (fun y => if y = Str.ofString "k" then some (.int k tk0) else u y))
  (N : News h₀ L s.heap [(L + 1 + 1 + 1 + 1 + 1, o5), (L + 1 + 1 + 1 + 1, o4), (L + 1 + 1 + 1, o3), (L + 1 + 1, o2), (L + 1, o1), (205, tabObj #[])])
include B X T C hL hW hW' hn0 hn hk0 hk hm0 hm d1 d2 d3 d4 d5 F N
local macro_rules | `(tactic| walk_at "call ref") => `(tactic| (k_here; (with_reducible show wpAny _ _ (call (Value.ref 177) _) _ _ _); k_dflt (refine' mul_spec _ _ _ _ _ _ _ _ _ _ _ _ _ _ _ _ _ _ _; walk_at "z0"); walk_at "z9"))
local macro_rules | `(tactic| walk_at "call ref") => `(tactic| (k_here; (with_reducible show wpAny _ _ (call (Value.ref 135) _) _ _ _); k_dflt (refine' fact_use _ _ _ _ _ _ _ _ _ _ _ _ _; walk_at "z0"); walk_at "z9"))
local macro_rules | `(tactic| walk_at "call ref") => `(tactic| (k_here; (with_reducible show wpAny _ _ (call (Value.ref 142) _) _ _ _); k_dflt (refine' dfact_spec _ _ _ _ _ _ _ _ _ _ _ _ _; walk_at "z0"); walk_at "z9"))
local macro_rules | `(tactic| walk_at "call ref") => `(tactic| (k_here; (with_reducible show wpAny _ _ (call (Value.ref 128) _) _ _ _); k_dflt (refine' swing_spec _ _ _ _ _ _ _ _ _ _ _ _ _; walk_at "z0"); walk_at "z9"))
local macro_rules | `(tactic| walk_at "call ref") => `(tactic| (k_here; (with_reducible show wpAny _ _ (call (Value.ref 170) _) _ _ _); k_dflt (refine' catalan_spec _ _ _ _ _ _ _ _ _ _ _ _ _; walk_at "z0"); walk_at "z9"))
local macro_rules | `(tactic| walk_at "call ref") => `(tactic| (k_here; (with_reducible show wpAny _ _ (call (Value.ref 149) _) _ _ _); k_dflt (refine' primor_spec _ _ _ _ _ _ _ _ _ _ _ _ _; walk_at "z0"); walk_at "z9"))
local macro_rules | `(tactic| walk_at "call ref") => `(tactic| (k_here; (with_reducible show wpAny _ _ (call (Value.ref 88) _) _ _ _); k_dflt (refine' sieve_use _ _ _ _ _ _ _ _ _ _ _; walk_at "z0"); walk_at "z9"))
local macro_rules | `(tactic| walk_at "call ref") => `(tactic| (k_here; (with_reducible show wpAny _ _ (call (Value.ref 53) _) _ _ _); k_dflt (refine' natof_spec _ _ _ _ _ _ _ _ _ _ _ _ _; walk_at "z0"); walk_at "z9"))
local macro_rules | `(tactic| walk_at "call ref") => `(tactic| (k_here; (with_reducible show wpAny _ _ (call (Value.ref 163) _) _ _ _); k_dflt (refine' binom_spec _ _ _ _ _ _ _ _ _ _ _ _ _ _ _; walk_at "z0"); walk_at "z9"))
local macro_rules | `(tactic| walk_at "call ref") => `(tactic| (k_here; (with_reducible show wpAny _ _ (call (Value.ref 191) _) _ _ _); k_dflt (refine' sum_spec _ _ _ _ _ _ _ _ _ _ _ _ _ _; walk_at "z0"); walk_at "z9"))
local macro_rules | `(tactic| ktr_units) => `(tactic| exact Nat.le_of_ble_eq_true rfl)
local macro_rules | `(tactic| ktr_room) => `(tactic| exact Nat.le_of_ble_eq_true rfl)
local macro_rules | `(tactic| walk_at "callWith ref") => `(tactic| (k_here; k_dflt (refine' callWith_K ?k1 ?k2 ?_; (case k1 => k_asm); (case k2 => k_is); k_whole)))
local macro_rules | `(tactic| walk_at "z1") => `(tactic| (with_reducible show Mine.RowsIn _ _ _ _); first | with_reducible assumption | exact Mine.RowsIn.mono (by with_reducible assumption) (fun q hq => by simp [hq]))
local macro_rules | `(tactic| walk_at "z1") => `(tactic| first | with_reducible assumption | exact Nat.le_of_ble_eq_true rfl)
local macro_rules | `(tactic| walk_at "compareOp NotEq ref ref") => `(tactic| (k_here; (with_reducible show wpAny _ _ (compareOp CmpOp.NotEq (Value.ref _) (Value.ref _)) _ _ _); k_dflt (first
  | (refine' ne_same _ _ _ _ _ _ _ _ _ _ _; walk_at "z0"; refine Hold.out ?_)
  | (refine' ne_rows _ _ _ _ _ _ _ _ _; walk_at "z0"; refine Hold.out ?_)
  | (refine Hold.mk ?_))))
local macro_rules | `(tactic| walk_at "exec Assign cons ListComp") => `(tactic| refine Hold.mk ?_)
local macro_rules | `(tactic| walk_at "eval ListComp") => `(tactic| refine Hold.mk ?_)
local macro_rules | `(tactic| walk_at "CompSrc") => `(tactic| refine Hold.mk ?_)
local macro_rules | `(tactic| walk_at "CompSrcT") => `(tactic| refine Hold.mk ?_)
local macro_rules | `(tactic| walk_at "CompEnd") => `(tactic| refine Hold.mk ?_)
omit B X T C hL hW hW' hn0 hn hk0 hk hm0 hm d1 d2 d3 d4 d5 F N in
theorem cat_le : ∀ n : Fin 7, 0 ≤ binI (2 * n.1) n.1 - binI (2 * n.1) (n.1 + 1) ∧ binI (2 * n.1) n.1 - binI (2 * n.1) (n.1 + 1) ≤ 1000 := by decide +kernel
omit B X T C hL hW hW' hn0 hn hk0 hk hm0 hm d1 d2 d3 d4 d5 F N in
def catRow (m : Nat) : List Int := (List.range (m + 1)).map fun i => (binI (2 * i) i - binI (2 * i) (i + 1)) * (binI (2 * (m - i)) (m - i) - binI (2 * (m - i)) (m - i + 1))
omit B X T C hL hW hW' hn0 hn hk0 hk hm0 hm d1 d2 d3 d4 d5 F N in
theorem cat_sum : ∀ m : Fin 7, sumL (catRow m.1) = binI (2 * (m.1 + 1)) (m.1 + 1) - binI (2 * (m.1 + 1)) (m.1 + 1 + 1) := by decide +kernel
theorem tail9 (next : ∀ m' h' tk', m' (Str.ofString "k") = some (.int k tk0) → Fr h₀ L h' m' → News h₀ L h' [(L + 1 + 1 + 1 + 1 + 1, o5), (L + 1 + 1 + 1 + 1, o4), (L + 1 + 1 + 1, o3), (L + 1 + 1, o2), (L + 1, o1), (205, tabObj #[])] →
      wpAny (model MP w) (callerA.deeper (lawEnv L fa)) (execs (lawBody.drop 11) (lawEnv L fa)) Q (fun _ _ => False) { s with heap := h', toks := tk' }) :
    wpAny (model MP w) (callerA.deeper (lawEnv L fa)) (execs (lawBody.drop 9) (lawEnv L fa)) Q (fun _ _ => False) s := by
  have hsc : lawScope = PySem.Scope.mk _ _ _ _ _ := rfl
  unfold lawEnv at *
  rw [hsc] at *
  clear hsc
  revert X next; delta MP; k_fill; intro X next
  show wpAny _ _ (execs (_ :: _ :: lawBody.drop 11) _) _ _ _
  revert next
  generalize lawBody.drop 11 = lrest
  intro next
  try k_fold
  obtain ⟨sh, sg, sd, st, so⟩ := s
  dsimp only at F N next
  obtain ⟨hB, hB'⟩ := pw hW hW'
  k_steps
  refine Hold.out ?_
  k_dflt (refine LCg.Assign_ListComp_U (F₀ := by k_asm) (by rfl) (by with_unfolding_all rfl) (by with_unfolding_all rfl) (by decide) (by rfl) (by decide) (by rfl) (by rfl) (by rfl) ?_)
  k_steps
  rename Fr _ _ _ _ => lF
  rename News _ _ _ _ => lN
  rename IsRange _ _ _ _ _ _ _ _ => hRg
  refine Hold.out ?_
  refine LCg.CompSrc.range (n := m0.toNat + 1) (by rfl) lF lN hRg (small_pos (by omega) (by omega) (by omega) (by omega) (by omega) (by omega)) (by rw [rangeSize_nat]; omega) (by rw [sizeLine_eq]; omega) fun g => comp_ind _ (fun i ys nw => ∃ led, nw = (L + 1 + 1 + 1 + 1 + 1, o5) :: (L + 1 + 1 + 1 + 1, o4) :: (L + 1 + 1 + 1, o3) :: (L + 1 + 1, o2) :: (L + 1, o1) :: (205, tabObj #[]) :: led ∧ RowsIn led (2 ^ W.toNat) ys ((catRow m0.toNat).take i)) ?fin ?step _ 0 [] _ (Nat.add_zero _) ⟨[], rfl, .nil⟩
  case step =>
    rintro i ys nw hi ⟨led, rfl, hJ⟩ v I oI C oC D m2 h tk E' hv hNs hmx Fc Nc off ne
    obtain ⟨tx, rfl⟩ := hv
    dsimp only [adN, oN] at Nc off ⊢
    have hi0 : (0 : Int) + (i : Int) = (i : Int) := by omega
    rw [hi0] at hmx
    have hc1 := cat_le ⟨(i : Int).toNat, by omega⟩
    have hc2 := cat_le ⟨(m0 - (i : Int)).toNat, by omega⟩
    dsimp only at hc1 hc2
    k_steps
    rename Rep _ _ (_ * _) => hR3
    rename News _ _ _ _ => nE
    rename IntsAre _ _ => hI3
    rename ∀ (p : Addr × Obj), p ∈ _ :: _ :: (I, oI) :: _ → p.1 ≠ _ => hne3
    obtain ⟨hc3, hc4⟩ := hc1
    obtain ⟨hc5, hc6⟩ := hc2
    have hbp := Int.mul_le_mul hc4 hc6 hc5 (by omega)
    have hbq := Int.mul_nonneg hc3 hc5
    refine Hold.out ?_
    show LCg.CompEnd _ _ _ _ _ _ _ _ _ _ _ _ _ _
    refine LCg.CompEnd.intro (by assumption) nE ((L + 1 + 1 + 1 + 1 + 1, o5) :: (L + 1 + 1 + 1 + 1, o4) :: (L + 1 + 1 + 1, o3) :: (L + 1 + 1, o2) :: (L + 1, o1) :: (205, tabObj #[]) :: (adN nE, oN nE) :: led) ?sub ⟨off.1, off.2.1, off.2.2.1, off.2.2.2.1, off.2.2.2.2.1, off.2.2.2.2.2.1, ⟨(hne3 _ (.tail _ (.tail _ (.head _)))).symm, (hne3 _ (.tail _ (.tail _ (.tail _ (.head _))))).symm, (hne3 _ (.tail _ (.tail _ (.tail _ (.tail _ (.head _)))))).symm⟩, off.2.2.2.2.2.2⟩ trivial ⟨(adN nE, oN nE) :: led, rfl, ?pi⟩
    case sub => intro p hp; simp only [List.mem_cons] at hp ⊢; rcases hp with h | h | h | h | h | h | h | h | h | h | h <;> simp only [h, true_or, or_true]
    case pi =>
      have e : (catRow m0.toNat).take (i + 1) = (catRow m0.toNat).take i ++ [(binI (2 * (i : Int).toNat) (i : Int).toNat - binI (2 * (i : Int).toNat) ((i : Int).toNat + 1)) * (binI (2 * (m0 - (i : Int)).toNat) (m0 - (i : Int)).toNat - binI (2 * (m0 - (i : Int)).toNat) ((m0 - (i : Int)).toNat + 1))] := by
        have e1 : (m0 - (i : Int)).toNat = m0.toNat - i := by omega
        rw [List.take_add_one, e1, Int.toNat_natCast]
        simp [catRow, hi]
      rw [e]
      exact (hJ.mono mem2).snoc (.head _) hI3 hR3 hbq (by omega)
  case fin =>
    rintro ys nw ⟨led, rfl, hJ⟩
    intro D h tk FD ND oD
    have hcl : (catRow m0.toNat).length ≤ 100 := by simp [catRow]; omega
    have hcs := cat_sum ⟨m0.toNat, by omega⟩
    dsimp only at hcs
    have em1 : m0.toNat + 1 = (m0 + 1).toNat := by omega
    rw [em1] at hcs
    rw [List.take_of_length_le (by simp [catRow])] at hJ
    k_steps
    dsimp only
    rename News _ _ _ _ => nZ
    refine next _ _ _ ?_ (by assumption) ?_
    · rfl
    · intro p hp
      simp only [List.mem_cons, List.not_mem_nil, or_false] at hp
      rcases hp with hp | hp | hp | hp | hp | hp <;> exact nZ p (by simp only [hp, List.mem_cons, true_or, or_true])

end
end Mine
end
section
theorem Mine.w_off17 : True := by
  w_top off
  exact trivial
open PySem PySem.W PyProof.Rows
set_option maxRecDepth 100000
set_option maxHeartbeats 8000000
namespace Mine
section
variable {w : World} {p : Program} {loose : List Str} {mean : ExcName → Option Value} {mg mb : Str → Option Value} {h₀ : Heap} {L : Nat} {fa : Addr} {s : Shared} {Q : Flow → Shared → Prop} {u : Str → Option Value}
  {W n k m0 : Int} {tW tn tk0 tm : Tok} {o1 o2 o3 o4 o5 : Obj}
  (B : Below callerA h₀ [] h₀) (X : (hd.heap_39 w.params).In h₀) (T : Top p loose mean mg mb h₀) (C : CodeHd h₀ 207 205) (hL : 205 < L)
  (hW : 3 ≤ W) (hW' : W ≤ 9) (hn0 : 0 ≤ n) (hn : n ≤ 8) (hk0 : 0 ≤ k) (hk : k ≤ n + 2) (hm0 : 0 ≤ m0) (hm : m0 ≤ 6)
  (d1 : o1.data = .cell (some (.int m0 tm))) (d2 : o2.data = .cell none) (d3 : o3.data = .cell (some (.int n tn))) (d4 : o4.data = .cell (some (.int W tW))) (d5 : o5.data = .cell none)
  (F : Fr h₀ L s.heap (fun y => if y = Str.ofString "k" then some (.int k tk0) else u y))
  (N : News h₀ L s.heap [(L + 1 + 1 + 1 + 1 + 1, o5), (L + 1 + 1 + 1 + 1, o4), (L + 1 + 1 + 1, o3), (L + 1 + 1, o2), (L + 1, o1), (205, tabObj #[])])
include B X T C hL hW hW' hn0 hn hk0 hk hm0 hm d1 d2 d3 d4 d5 F N
local macro_rules | `(tactic| walk_at "call ref") => `(tactic| (k_here; (with_reducible show wpAny _ _ (call (Value.ref 177) _) _ _ _); k_dflt (refine' mul_spec _ _ _ _ _ _ _ _ _ _ _ _ _ _ _ _ _ _ _; walk_at "z0"); walk_at "z9"))
local macro_rules | `(tactic| walk_at "call ref") => `(tactic| (k_here; (with_reducible show wpAny _ _ (call (Value.ref 135) _) _ _ _); k_dflt (refine' fact_use _ _ _ _ _ _ _ _ _ _ _ _ _; walk_at "z0"); walk_at "z9"))
local macro_rules | `(tactic| walk_at "call ref") => `(tactic| (k_here; (with_reducible show wpAny _ _ (call (Value.ref 142) _) _ _ _); k_dflt (refine' dfact_spec _ _ _ _ _ _ _ _ _ _ _ _ _; walk_at "z0"); walk_at "z9"))
local macro_rules | `(tactic| walk_at "call ref") => `(tactic| (k_here; (with_reducible show wpAny _ _ (call (Value.ref 128) _) _ _ _); k_dflt (refine' swing_spec _ _ _ _ _ _ _ _ _ _ _ _ _; walk_at "z0"); walk_at "z9"))
local macro_rules | `(tactic| walk_at "call ref") => `(tactic| (k_here; (with_reducible show wpAny _ _ (call (Value.ref 170) _) _ _ _); k_dflt (refine' catalan_spec _ _ _ _ _ _ _ _ _ _ _ _ _; walk_at "z0"); walk_at "z9"))
local macro_rules | `(tactic| walk_at "call ref") => `(tactic| (k_here; (with_reducible show wpAny _ _ (call (Value.ref 149) _) _ _ _); k_dflt (refine' primor_spec _ _ _ _ _ _ _ _ _ _ _ _ _; walk_at "z0"); walk_at "z9"))
local macro_rules | `(tactic| walk_at "call ref") => `(tactic| (k_here; (with_reducible show wpAny _ _ (call (Value.ref 88) _) _ _ _); k_dflt (refine' sieve_use _ _ _ _ _ _ _ _ _ _ _; walk_at "z0"); walk_at "z9"))
local macro_rules | `(tactic| walk_at "call ref") => `(tactic| (k_here; (with_reducible show wpAny _ _ (call (Value.ref 53) _) _ _ _); k_dflt (refine' natof_spec _ _ _ _ _ _ _ _ _ _ _ _ _; walk_at "z0"); walk_at "z9"))
local macro_rules | `(tactic| walk_at "call ref") => `(tactic| (k_here; (with_reducible show wpAny _ _ (call (Value.ref 163) _) _ _ _); k_dflt (refine' binom_spec _ _ _ _ _ _ _ _ _ _ _ _ _ _ _; walk_at "z0"); walk_at "z9"))
local macro_rules | `(tactic| walk_at "call ref") => `(tactic| (k_here; (with_reducible show wpAny _ _ (call (Value.ref 191) _) _ _ _); k_dflt (refine' sum_spec _ _ _ _ _ _ _ _ _ _ _ _ _ _; walk_at "z0"); walk_at "z9"))
local macro_rules | `(tactic| walk_at "z1") => `(tactic| (with_reducible show Mine.RowsIn _ _ _ _); first | with_reducible assumption | exact Mine.RowsIn.mono (by with_reducible assumption) (fun q hq => by simp [hq]))
local macro_rules | `(tactic| walk_at "z1") => `(tactic| first | with_reducible assumption | exact Nat.le_of_ble_eq_true rfl)
local macro_rules | `(tactic| ktr_units) => `(tactic| exact Nat.le_of_ble_eq_true rfl)
local macro_rules | `(tactic| ktr_room) => `(tactic| exact Nat.le_of_ble_eq_true rfl)
local macro_rules | `(tactic| walk_at "callWith ref") => `(tactic| (k_here; k_dflt (refine' callWith_K ?k1 ?k2 ?_; (case k1 => k_asm); (case k2 => k_is); k_whole)))
local macro_rules | `(tactic| walk_at "compareOp NotEq ref ref") => `(tactic| refine Hold.mk ?_)
omit B X T C hL hW hW' hn0 hn hk0 hk hm0 hm d1 d2 d3 d4 d5 F N in
theorem prim_step : ∀ n : Fin 9, prodL (sieveL (n.1 + 1)) = if ((sieveL (n.1 + 1)).any fun x => x == (n.1 : Int) + 1) = true then prodL (sieveL n.1) * ((n.1 : Int) + 1) else prodL (sieveL n.1) := by decide +kernel
omit B X T C hL hW hW' hn0 hn hk0 hk hm0 hm d1 d2 d3 d4 d5 F N in
theorem prim_le : ∀ n : Fin 9, prodL (sieveL n.1) ≤ 1000 ∧ 0 ≤ prodL (sieveL n.1) := by decide +kernel
theorem tail11 (next : ∀ m' h' tk', m' (Str.ofString "k") = some (.int k tk0) → Fr h₀ L h' m' → News h₀ L h' [(L + 1 + 1 + 1 + 1 + 1, o5), (L + 1 + 1 + 1 + 1, o4), (L + 1 + 1 + 1, o3), (L + 1 + 1, o2), (L + 1, o1), (205, tabObj #[])] →
      wpAny (model MP w) (callerA.deeper (lawEnv L fa)) (execs (lawBody.drop 14) (lawEnv L fa)) Q (fun _ _ => False) { s with heap := h', toks := tk' }) :
    wpAny (model MP w) (callerA.deeper (lawEnv L fa)) (execs (lawBody.drop 11) (lawEnv L fa)) Q (fun _ _ => False) s := by
  have hsc : lawScope = PySem.Scope.mk _ _ _ _ _ := rfl
  unfold lawEnv at *
  rw [hsc] at *
  clear hsc
  revert X next; delta MP; k_fill; intro X next
  show wpAny _ _ (execs (_ :: _ :: _ :: lawBody.drop 14) _) _ _ _
  revert next
  generalize lawBody.drop 14 = lrest
  intro next
  try k_fold
  obtain ⟨sh, sg, sd, st, so⟩ := s
  dsimp only at F N next
  obtain ⟨hB, hB'⟩ := pw hW hW'
  have hs1 := prim_step ⟨n.toNat, by omega⟩
  have hs2 := prim_le ⟨n.toNat, by omega⟩
  dsimp only at hs1 hs2
  have en1 : (n + 1).toNat = n.toNat + 1 := by omega
  have enn : ((n.toNat : Nat) : Int) = n := by omega
  rw [enn, ← en1] at hs1
  clear en1 enn
  k_steps
  all_goals refine Hold.out ?_
  all_goals rename List.any _ _ = _ => ha
  all_goals simp only [ha, if_true, Bool.false_eq_true, if_false] at hs1
  all_goals k_dflt (refine' ne_same ?zN ?z1 ?z2 ?z3 ?z4 ?z5 ?z6 ?zB hs1 ?z8 ?_; (case zN => k_asm); (case z1 => k_mem); (case z2 => k_mem); (case z3 => with_reducible assumption); (case z4 => with_reducible assumption); (case z5 => with_reducible assumption); (case z6 => with_reducible assumption); (case zB => omega); (case z8 => ktr_units); refine Hold.out ?_)
  all_goals k_steps
  all_goals dsimp only
  · rename News _ _ _ _ => nZ
    refine next _ _ _ ?_ (by assumption) ?_
    · rfl
    · intro p hp
      simp only [List.mem_cons, List.not_mem_nil, or_false] at hp
      rcases hp with hp | hp | hp | hp | hp | hp <;> exact nZ p (by simp only [hp, List.mem_cons, true_or, or_true])
  · rename News _ _ _ _ => nZ
    refine next _ _ _ ?_ (by assumption) ?_
    · rfl
    · intro p hp
      simp only [List.mem_cons, List.not_mem_nil, or_false] at hp
      rcases hp with hp | hp | hp | hp | hp | hp <;> exact nZ p (by simp only [hp, List.mem_cons, true_or, or_true])

end
end Mine
end
section
theorem Mine.w_off18 : True := by
  w_top off
  exact trivial
open PySem PySem.W PyProof.Rows
set_option maxRecDepth 100000
set_option maxHeartbeats 8000000
namespace Mine
section
variable {w : World} {p : Program} {loose : List Str} {mean : ExcName → Option Value} {mg mb : Str → Option Value} {h₀ : Heap} {L : Nat} {fa : Addr} {s : Shared} {Q : Flow → Shared → Prop} {u : Str → Option Value}
  {W n k m0 : Int} {tW tn tk0 tm : Tok} {o1 o2 o3 o4 o5 : Obj}
  (B : Below callerA h₀ [] h₀) (X : (hd.heap_39 w.params).In h₀) (T : Top p loose mean mg mb h₀) (C : CodeHd h₀ 207 205) (hL : 205 < L)
  (hW : 3 ≤ W) (hW' : W ≤ 9) (hn0 : 0 ≤ n) (hn : n ≤ 8) (hk0 : 0 ≤ k) (hk : k ≤ n + 2) (hm0 : 0 ≤ m0) (hm : m0 ≤ 6)
  (d1 : o1.data = .cell (some (.int m0 tm))) (d2 : o2.data = .cell none) (d3 : o3.data = .cell (some (.int n tn))) (d4 : o4.data = .cell (some (.int W tW))) (d5 : o5.data = .cell none)
  (F : Fr h₀ L s.heap (fun y => if y = Str.ofString "k" then some (.int k tk0) else u y))
  (N : News h₀ L s.heap [(L + 1 + 1 + 1 + 1 + 1, o5), (L + 1 + 1 + 1 + 1, o4), (L + 1 + 1 + 1, o3), (L + 1 + 1, o2), (L + 1, o1), (205, tabObj #[])])
include B X T C hL hW hW' hn0 hn hk0 hk hm0 hm d1 d2 d3 d4 d5 F N
local macro_rules | `(tactic| walk_at "call ref") => `(tactic| (k_here; (with_reducible show wpAny _ _ (call (Value.ref 177) _) _ _ _); k_dflt (refine' mul_spec _ _ _ _ _ _ _ _ _ _ _ _ _ _ _ _ _ _ _; walk_at "z0"); walk_at "z9"))
local macro_rules | `(tactic| walk_at "call ref") => `(tactic| (k_here; (with_reducible show wpAny _ _ (call (Value.ref 135) _) _ _ _); k_dflt (refine' fact_use _ _ _ _ _ _ _ _ _ _ _ _ _; walk_at "z0"); walk_at "z9"))
local macro_rules | `(tactic| walk_at "call ref") => `(tactic| (k_here; (with_reducible show wpAny _ _ (call (Value.ref 142) _) _ _ _); k_dflt (refine' dfact_spec _ _ _ _ _ _ _ _ _ _ _ _ _; walk_at "z0"); walk_at "z9"))
local macro_rules | `(tactic| walk_at "call ref") => `(tactic| (k_here; (with_reducible show wpAny _ _ (call (Value.ref 128) _) _ _ _); k_dflt (refine' swing_spec _ _ _ _ _ _ _ _ _ _ _ _ _; walk_at "z0"); walk_at "z9"))
local macro_rules | `(tactic| walk_at "call ref") => `(tactic| (k_here; (with_reducible show wpAny _ _ (call (Value.ref 170) _) _ _ _); k_dflt (refine' catalan_spec _ _ _ _ _ _ _ _ _ _ _ _ _; walk_at "z0"); walk_at "z9"))
local macro_rules | `(tactic| walk_at "call ref") => `(tactic| (k_here; (with_reducible show wpAny _ _ (call (Value.ref 149) _) _ _ _); k_dflt (refine' primor_spec _ _ _ _ _ _ _ _ _ _ _ _ _; walk_at "z0"); walk_at "z9"))
local macro_rules | `(tactic| walk_at "call ref") => `(tactic| (k_here; (with_reducible show wpAny _ _ (call (Value.ref 88) _) _ _ _); k_dflt (refine' sieve_use _ _ _ _ _ _ _ _ _ _ _; walk_at "z0"); walk_at "z9"))
local macro_rules | `(tactic| walk_at "call ref") => `(tactic| (k_here; (with_reducible show wpAny _ _ (call (Value.ref 53) _) _ _ _); k_dflt (refine' natof_spec _ _ _ _ _ _ _ _ _ _ _ _ _; walk_at "z0"); walk_at "z9"))
local macro_rules | `(tactic| walk_at "call ref") => `(tactic| (k_here; (with_reducible show wpAny _ _ (call (Value.ref 163) _) _ _ _); k_dflt (refine' binom_spec _ _ _ _ _ _ _ _ _ _ _ _ _ _ _; walk_at "z0"); walk_at "z9"))
local macro_rules | `(tactic| walk_at "call ref") => `(tactic| (k_here; (with_reducible show wpAny _ _ (call (Value.ref 191) _) _ _ _); k_dflt (refine' sum_spec _ _ _ _ _ _ _ _ _ _ _ _ _ _; walk_at "z0"); walk_at "z9"))
local macro_rules | `(tactic| walk_at "z1") => `(tactic| (with_reducible show Mine.RowsIn _ _ _ _); first | with_reducible assumption | exact Mine.RowsIn.mono (by with_reducible assumption) (fun q hq => by simp [hq]))
local macro_rules | `(tactic| walk_at "z1") => `(tactic| first | with_reducible assumption | exact Nat.le_of_ble_eq_true rfl)
local macro_rules | `(tactic| ktr_units) => `(tactic| exact Nat.le_of_ble_eq_true rfl)
local macro_rules | `(tactic| ktr_room) => `(tactic| exact Nat.le_of_ble_eq_true rfl)
local macro_rules | `(tactic| walk_at "callWith ref") => `(tactic| (k_here; k_dflt (refine' callWith_K ?k1 ?k2 ?_; (case k1 => k_asm); (case k2 => k_is); k_whole)))
local macro_rules | `(tactic| walk_at "compareOp NotEq ref ref") => `(tactic| refine Hold.mk ?_)
omit B X T C hL hW hW' hn0 hn hk0 hk hm0 hm d1 d2 d3 d4 d5 F N in
theorem rep_is_one {B : Int} {zs : List Int} {N : Int} (hB : 1 < B) (h : Rep B zs N) (e : N = 1) : zs = [1] := (h.eq_iff hB (Rep.one (by omega))).mpr e
theorem tail14 (next : ∀ m' h' tk', m' (Str.ofString "k") = some (.int k tk0) → Fr h₀ L h' m' → News h₀ L h' [(L + 1 + 1 + 1 + 1 + 1, o5), (L + 1 + 1 + 1 + 1, o4), (L + 1 + 1 + 1, o3), (L + 1 + 1, o2), (L + 1, o1), (205, tabObj #[])] →
      wpAny (model MP w) (callerA.deeper (lawEnv L fa)) (execs (lawBody.drop 17) (lawEnv L fa)) Q (fun _ _ => False) { s with heap := h', toks := tk' }) :
    wpAny (model MP w) (callerA.deeper (lawEnv L fa)) (execs (lawBody.drop 14) (lawEnv L fa)) Q (fun _ _ => False) s := by
  have hsc : lawScope = PySem.Scope.mk _ _ _ _ _ := rfl
  unfold lawEnv at *
  rw [hsc] at *
  clear hsc
  revert X next; delta MP; k_fill; intro X next
  show wpAny _ _ (execs (_ :: _ :: _ :: lawBody.drop 17) _) _ _ _
  revert next
  generalize lawBody.drop 17 = lrest
  intro next
  try k_fold
  obtain ⟨sh, sg, sd, st, so⟩ := s
  dsimp only at F N next
  obtain ⟨hB, hB'⟩ := pw hW hW'
  k_steps
  refine Hold.out ?_
  rename Rep _ _ _ => q0
  have e0 := rep_is_one (by omega) q0 (by decide)
  clear q0
  rename Rep _ _ _ => q1
  have e1 := rep_is_one (by omega) q1 (by decide)
  clear q1
  rename Rep _ _ _ => q2
  have e2 := rep_is_one (by omega) q2 (by decide)
  clear q2
  rename Rep _ _ _ => q3
  have e3 := rep_is_one (by omega) q3 (by decide)
  clear q3
  rename Rep _ _ _ => q4
  have e4 := rep_is_one (by omega) q4 (by decide)
  clear q4
  rename Rep _ _ _ => q5
  have e5 := rep_is_one (by omega) q5 (by decide)
  clear q5
  rename Rep _ _ _ => q6
  have e6 := rep_is_one (by omega) q6 (by decide)
  clear q6
  rename Rep _ _ _ => q7
  have e7 := rep_is_one (by omega) q7 (by decide)
  clear q7
  subst e0 e1 e2 e3 e4 e5 e6 e7
  k_dflt (refine' ne_rows (B := 2 ^ W.toNat) (ns := [1, 1, 1, 1, 1, 1, 1, 1]) (ms := [1, 1, 1, 1, 1, 1, 1, 1]) ?zN ?z1 ?z2 ?z3 ?z4 rfl (by omega) ?z8 ?_)
  case zN => k_asm
  case z1 => k_mem
  case z2 => k_mem
  case z3 => exact .cons (by k_mem) (by assumption) (Rep.one (by omega)) (by omega) (by omega) (.cons (by k_mem) (by assumption) (Rep.one (by omega)) (by omega) (by omega) (.cons (by k_mem) (by assumption) (Rep.one (by omega)) (by omega) (by omega) (.cons (by k_mem) (by assumption) (Rep.one (by omega)) (by omega) (by omega) (.cons (by k_mem) (by assumption) (Rep.one (by omega)) (by omega) (by omega) (.cons (by k_mem) (by assumption) (Rep.one (by omega)) (by omega) (by omega) (.cons (by k_mem) (by assumption) (Rep.one (by omega)) (by omega) (by omega) (.cons (by k_mem) (by assumption) (Rep.one (by omega)) (by omega) (by omega) (.nil))))))))
  case z4 => exact .cons (by k_mem) (.cons _ _ .nil) (Rep.one (by omega)) (by omega) (by omega) (.cons (by k_mem) (.cons _ _ .nil) (Rep.one (by omega)) (by omega) (by omega) (.cons (by k_mem) (.cons _ _ .nil) (Rep.one (by omega)) (by omega) (by omega) (.cons (by k_mem) (.cons _ _ .nil) (Rep.one (by omega)) (by omega) (by omega) (.cons (by k_mem) (.cons _ _ .nil) (Rep.one (by omega)) (by omega) (by omega) (.cons (by k_mem) (.cons _ _ .nil) (Rep.one (by omega)) (by omega) (by omega) (.cons (by k_mem) (.cons _ _ .nil) (Rep.one (by omega)) (by omega) (by omega) (.cons (by k_mem) (.cons _ _ .nil) (Rep.one (by omega)) (by omega) (by omega) (.nil))))))))
  case z8 => ktr_units
  refine Hold.out ?_
  k_steps
  dsimp only
  rename News _ _ _ _ => nZ
  refine next _ _ _ ?_ (by assumption) ?_
  · rfl
  · intro p hp
    simp only [List.mem_cons, List.not_mem_nil, or_false] at hp
    rcases hp with hp | hp | hp | hp | hp | hp <;> exact nZ p (by simp only [hp, List.mem_cons, true_or, or_true])

end
end Mine
end
section
theorem Mine.w_off19 : True := by
  w_top off
  exact trivial
open PySem PySem.W PyProof.Rows
set_option maxRecDepth 100000
set_option maxHeartbeats 8000000
namespace Mine
section
variable {w : World} {p : Program} {loose : List Str} {mean : ExcName → Option Value} {mg mb : Str → Option Value} {h₀ : Heap} {L : Nat} {fa : Addr} {s : Shared} {Q : Flow → Shared → Prop} {u : Str → Option Value}
  {W n k m0 : Int} {tW tn tk0 tm : Tok} {o1 o2 o3 o4 o5 : Obj}
  (B : Below callerA h₀ [] h₀) (X : (hd.heap_39 w.params).In h₀) (T : Top p loose mean mg mb h₀) (C : CodeHd h₀ 207 205) (hL : 205 < L)
  (hW : 3 ≤ W) (hW' : W ≤ 9) (hn0 : 0 ≤ n) (hn : n ≤ 8) (hk0 : 0 ≤ k) (hk : k ≤ n + 2) (hm0 : 0 ≤ m0) (hm : m0 ≤ 6)
  (d1 : o1.data = .cell (some (.int m0 tm))) (d2 : o2.data = .cell none) (d3 : o3.data = .cell (some (.int n tn))) (d4 : o4.data = .cell (some (.int W tW))) (d5 : o5.data = .cell none)
  (F : Fr h₀ L s.heap (fun y => if y = Str.ofString "k" then some (.int k tk0) else u y))
  (N : News h₀ L s.heap [(L + 1 + 1 + 1 + 1 + 1, o5), (L + 1 + 1 + 1 + 1, o4), (L + 1 + 1 + 1, o3), (L + 1 + 1, o2), (L + 1, o1), (205, tabObj #[])])
include B X T C hL hW hW' hn0 hn hk0 hk hm0 hm d1 d2 d3 d4 d5 F N
local macro_rules | `(tactic| walk_at "call ref") => `(tactic| (k_here; (with_reducible show wpAny _ _ (call (Value.ref 135) _) _ _ _); k_dflt (refine' fact_raise (k := 0) (tk0 := 0) _ _ _ _ _ _ _ _ _ _; walk_at "z0"); walk_at "z9"))
local macro_rules | `(tactic| walk_at "call ref") => `(tactic| (k_here; (with_reducible show wpAny _ _ (call (Value.ref 142) _) _ _ _); k_dflt (refine' dfact_raise (k := 0) (tk0 := 0) _ _ _ _ _ _ _ _ _ _; walk_at "z0"); walk_at "z9"))
local macro_rules | `(tactic| walk_at "call ref") => `(tactic| (k_here; (with_reducible show wpAny _ _ (call (Value.ref 149) _) _ _ _); k_dflt (refine' primor_raise (k := 0) (tk0 := 0) _ _ _ _ _ _ _ _ _ _; walk_at "z0"); walk_at "z9"))
local macro_rules | `(tactic| walk_at "call ref") => `(tactic| (k_here; (with_reducible show wpAny _ _ (call (Value.ref 170) _) _ _ _); k_dflt (refine' catalan_raise (k := 0) (tk0 := 0) _ _ _ _ _ _ _ _ _ _; walk_at "z0"); walk_at "z9"))
local macro_rules | `(tactic| walk_at "call ref") => `(tactic| (k_here; (with_reducible show wpAny _ _ (call (Value.ref 163) _) _ _ _); k_dflt (refine' binom_raise _ _ _ _ _ _ _ _ _ _; walk_at "z0"); walk_at "z9"))
local macro_rules | `(tactic| walk_at "call ref") => `(tactic| (k_here; (with_reducible show wpAny _ _ (call (Value.ref 163) _) _ _ _); k_dflt (refine' binom_raise2 _ _ _ _ _ _ _ _ _ _ _; walk_at "z0"); walk_at "z9"))
local macro_rules | `(tactic| walk_at "z1") => `(tactic| first | with_reducible assumption | exact Nat.le_of_ble_eq_true rfl)
omit B X T C hL hW hW' hn0 hn hk0 hk hm0 hm d1 d2 d3 d4 d5 F N in
theorem tab_of_news {g h : Heap} {L : Addr} {ps : Array Value} {news : List (Addr × Obj)} (N : News g L h news) (hm : (205, tabObj ps) ∈ news) : ∃ ps, News g L h [(205, tabObj ps)] :=
  ⟨ps, fun p hp => N p (List.mem_singleton.mp hp ▸ hm)⟩
local macro_rules | `(tactic| ktr_units) => `(tactic| exact Nat.le_of_ble_eq_true rfl)
local macro_rules | `(tactic| ktr_room) => `(tactic| exact Nat.le_of_ble_eq_true rfl)
local macro_rules | `(tactic| walk_at "leaving ref") => `(tactic| (k_here; (refine' leave_onX ?k1 ?k2 ?k3 ?k4 ?_; (case k3 => assumption); (case k1 => assumption); (case k4 => assumption); (case k2 => assumption); k_whole; intro h' R' U'; (try dsimp only at R' U' ⊢))))
local macro_rules | `(tactic| walk_at "call ref") => `(tactic| (k_here; (with_reducible show wpAny _ _ (call (Value.ref 198) _) _ _ _); k_dflt (refine' refused_spec ?cB ?cF ?cX ?cN ?cT ?cA ?cf ?ck ?cd ?cu ?x0 ?x1 ?_; (case cB => assumption); (case cF => k_asm); (case cX => k_asm); (case cN => k_asm); (case cT => k_asm); (case cA => exact rfl); (case cf => exact rfl); (case ck => exact rfl); (case cd => ktr_room); (case cu => ktr_units); (case x0 => k_mem); (case x1 => (unfold TaskRaises; intro g h₁ L' tk m' Q9 E9 F9 N9 B9 X9 T9 hE9; k_dflt (refine wpAny_call ?_; kla_enter); k_steps; exact hE9 _ _ _ _ _ _ (by assumption) (by assumption) (by assumption)))); intro h9 tk9 F9 N9; (try dsimp only)))
local macro_rules | `(tactic| walk_at "callWith ref") => `(tactic| (k_here; k_dflt (refine' callWith_K ?k1 ?k2 ?_; (case k1 => k_asm); (case k2 => k_is); k_whole)))
theorem tail17 (hQ : ∀ m' h' tk', Fr h₀ L h' m' → (∃ ps, News h₀ L h' [(205, tabObj ps)]) → Q (.ret (.bool true)) { s with heap := h', toks := tk' }) :
    wpAny (model MP w) (callerA.deeper (lawEnv L fa)) (execs (lawBody.drop 17) (lawEnv L fa)) Q (fun _ _ => False) s := by
  have hsc : lawScope = PySem.Scope.mk _ _ _ _ _ := rfl
  unfold lawEnv
  rw [hsc]
  clear hsc
  revert X; delta MP; k_fill; intro X
  show wpAny _ _ (execs (_ :: _ :: _ :: []) _) _ _ _
  try k_fold
  obtain ⟨sh, sg, sd, st, so⟩ := s
  dsimp only at F N hQ
  k_steps
  rename News _ _ _ _ => nZ
  exact hQ _ _ _ (by assumption) (tab_of_news nZ (by repeat (first | exact .head _ | refine .tail _ ?_)))

end
end Mine
end
section
theorem Mine.w_off20 : True := by
  w_top off
  exact trivial
open PySem PySem.W PyProof.Rows
set_option maxRecDepth 100000
set_option maxHeartbeats 8000000
namespace Mine
section
variable {w : World} {p : Program} {loose : List Str} {mean : ExcName → Option Value} {mg mb : Str → Option Value} {h₀ : Heap} {L : Nat} {fa : Addr} {s : Shared} {Q : Flow → Shared → Prop} {u : Str → Option Value}
  {W n k m0 : Int} {tW tn tk0 tm : Tok} {o1 o2 o3 o4 o5 : Obj}
  (B : Below callerA h₀ [] h₀) (X : (hd.heap_39 w.params).In h₀) (T : Top p loose mean mg mb h₀) (C : CodeHd h₀ 207 205) (hL : 205 < L)
  (hW : 3 ≤ W) (hW' : W ≤ 9) (hn0 : 0 ≤ n) (hn : n ≤ 8) (hk0 : 0 ≤ k) (hk : k ≤ n + 2) (hm0 : 0 ≤ m0) (hm : m0 ≤ 6)
  (d1 : o1.data = .cell (some (.int m0 tm))) (d2 : o2.data = .cell none) (d3 : o3.data = .cell (some (.int n tn))) (d4 : o4.data = .cell (some (.int W tW))) (d5 : o5.data = .cell none)
  (F : Fr h₀ L s.heap (fun y => if y = Str.ofString "k" then some (.int k tk0) else u y))
  (N : News h₀ L s.heap [(L + 1 + 1 + 1 + 1 + 1, o5), (L + 1 + 1 + 1 + 1, o4), (L + 1 + 1 + 1, o3), (L + 1 + 1, o2), (L + 1, o1), (205, tabObj #[])])
include B X T C hL hW hW' hn0 hn hk0 hk hm0 hm d1 d2 d3 d4 d5 F N
omit B X T C hL hW hW' hn0 hn hk0 hk hm0 hm d1 d2 d3 d4 d5 F N in
theorem fr_k {h : Heap} {m' : Str → Option Value} {v : Value} (F : Fr h₀ L h m') (hk : m' (Str.ofString "k") = some v) : Fr h₀ L h (fun y => if y = Str.ofString "k" then some v else m' y) := by
  have e : (fun y => if y = Str.ofString "k" then some v else m' y) = m' := by
    funext y
    by_cases h : y = Str.ofString "k"
    · rw [if_pos h, h, hk]
    · rw [if_neg h]
  rw [e]; exact F
omit B X T C hL hW hW' hn0 hn hk0 hk hm0 hm d1 d2 d3 d4 d5 F N in
theorem fr_kw {h : Heap} {m' : Str → Option Value} {v x : Value} (F : Fr h₀ L h m') (hk : m' (Str.ofString "k") = some v) (hw : m' (Str.ofString "whole") = some x) : Fr h₀ L h (fun y => if y = Str.ofString "whole" then some x else if y = Str.ofString "k" then some v else m' y) := by
  have e : (fun y => if y = Str.ofString "whole" then some x else if y = Str.ofString "k" then some v else m' y) = m' := by
    funext y
    by_cases h : y = Str.ofString "whole"
    · rw [if_pos h, h, hw]
    · rw [if_neg h]
      by_cases h2 : y = Str.ofString "k"
      · rw [if_pos h2, h2, hk]
      · rw [if_neg h2]
  rw [e]; exact F
theorem law_rest (hQ : ∀ m' h' tk', Fr h₀ L h' m' → (∃ ps, News h₀ L h' [(205, tabObj ps)]) → Q (.ret (.bool true)) { s with heap := h', toks := tk' }) :
    wpAny (model MP w) (callerA.deeper (lawEnv L fa)) (execs (lawBody.drop 3) (lawEnv L fa)) Q (fun _ _ => False) s := by
  refine tail3 B X T C hL hW hW' hn0 hn hk0 hk hm0 hm d1 d2 d3 d4 d5 F N fun m1 h1 tk1 hk1 F1 N1 => ?_
  refine tail4 B X T C hL hW hW' hn0 hn hk0 hk hm0 hm d1 d2 d3 d4 d5 (fr_k F1 hk1) N1 fun m2 h2 tk2 rw vsw kkw zsw hIw hRw hk2 hw2 F2 N2 => ?_
  refine tail5 B X T C hL hW hW' hn0 hn hk0 hk hm0 hm d1 d2 d3 d4 d5 hIw hRw (fr_kw F2 hk2 hw2) N2 fun m3 h3 tk3 hk3 hw3 F3 N3 => ?_
  refine tail6 B X T C hL hW hW' hn0 hn hk0 hk hm0 hm d1 d2 d3 d4 d5 hIw hRw (fr_kw F3 hk3 hw3) N3 fun m4 h4 tk4 hk4 hw4 F4 N4 => ?_
  refine tail7 B X T C hL hW hW' hn0 hn hk0 hk hm0 hm d1 d2 d3 d4 d5 hIw hRw (fr_kw F4 hk4 hw4) N4 fun m5 h5 tk5 hk5 F5 N5 => ?_
  refine tail9 B X T C hL hW hW' hn0 hn hk0 hk hm0 hm d1 d2 d3 d4 d5 (fr_k F5 hk5) N5 fun m6 h6 tk6 hk6 F6 N6 => ?_
  refine tail11 B X T C hL hW hW' hn0 hn hk0 hk hm0 hm d1 d2 d3 d4 d5 (fr_k F6 hk6) N6 fun m7 h7 tk7 hk7 F7 N7 => ?_
  refine tail14 B X T C hL hW hW' hn0 hn hk0 hk hm0 hm d1 d2 d3 d4 d5 (fr_k F7 hk7) N7 fun m8 h8 tk8 hk8 F8 N8 => ?_
  exact tail17 B X T C hL hW hW' hn0 hn hk0 hk hm0 hm d1 d2 d3 d4 d5 (fr_k F8 hk8) N8 hQ

end
end Mine
end
section
theorem Mine.w_off21 : True := by
  w_top off
  exact trivial
open PySem PySem.W PyProof.Rows
set_option maxRecDepth 100000
set_option maxHeartbeats 8000000
namespace Mine
local macro_rules | `(tactic| k_mem) => `(tactic| assumption)
local macro_rules | `(tactic| walk_at "MPost") => `(tactic| dsimp only [MPost])
local macro_rules | `(tactic| is_list) => `(tactic| exact News.isList (by with_reducible assumption) (by k_mem))
local macro_rules | `(tactic| k_all) => `(tactic| first | assumption | (refine allNe ?_; assumption) | (refine allNe (allLt_out ?_); assumption) | (refine allNe (allLt_out (And.right ?_)); assumption) | fail "no apartness")
local macro_rules | `(tactic| size_fits) => `(tactic| ((simp only [List.size_toArray, sizeLine_eq, List.length_append, List.length_cons, List.length_nil]); omega))
local macro_rules | `(tactic| walk_at "pyIter ref") => `(tactic| refine Hold.mk ?_)
local macro_rules | `(tactic| walk_at "call ref") => `(tactic| refine Hold.mk ?_)
section
variable {w : World} {p : Program} {loose : List Str} {mean : ExcName → Option Value} {mg mb : Str → Option Value} {dp un : Nat} {gd : Option (List Code)} {cn : Str} {cs : Scope} {a : Addr} {ccd : Value} {cl : List (Str × Addr)} {outer : List Env} {A₀ : Around} {base h₀ : Heap} {L : Addr} {m : Str → Option Value} {news : List (Addr × Obj)} {s : Shared} {Q E : Value → Shared → Prop}
  (B : Below A₀ base outer h₀) (F : Fr h₀ L s.heap m) (X : (hd.heap_39 w.params).In h₀) (N : News h₀ L s.heap news) (T : Top p loose mean mg mb h₀) (hk : cs.kind = .function)
include B F X N T hk
omit B F X N T hk in
def NeA (as : List Addr) (c : Addr) : Prop := ∀ a ∈ as, a ≠ c
omit B F X N T hk in
theorem neA_all {rest : List (Addr × Obj)} {c : Addr} (h : NeA (rest.map (·.1)) c) : ∀ p ∈ rest, p.1 ≠ c := fun p hp => h _ (List.mem_map_of_mem hp)
omit B F X N T hk in
theorem neA8 {a1 a2 a3 a4 a5 a6 a7 a8 c : Addr} (h : a1 < c ∧ a2 < c ∧ a3 < c ∧ a4 < c ∧ a5 < c ∧ a6 < c ∧ a7 < c ∧ a8 < c) : NeA [a1, a2, a3, a4, a5, a6, a7, a8] c := by
  intro a ha
  simp only [List.mem_cons, List.not_mem_nil, or_false] at ha
  obtain ⟨h1, h2, h3, h4, h5, h6, h7, h8⟩ := h
  rcases ha with rfl | rfl | rfl | rfl | rfl | rfl | rfl | rfl <;> exact Nat.ne_of_lt ‹_›
local macro_rules | `(tactic| walk_at "call ref") => `(tactic| (k_here; (with_reducible show wpAny _ _ (call (Value.ref 184) _) _ _ _); (try (rename _ < _ ∧ _ < _ ∧ _ < _ ∧ _ < _ ∧ _ < _ ∧ _ < _ ∧ _ < _ ∧ _ => l1X; have l1Y := neA8 l1X)); k_dflt (refine' take_spec ?cB ?cF ?cX ?cN ?cT ?ck ?x0 ?x1 ?x2 ?x3 ?x4 ?x5 ?x6 ?x7 ?cd ?cu ?_; (case cB => k_asm); (case cF => k_asm); (case cX => k_asm); (case cN => k_asm); (case cT => k_asm); (case ck => exact rfl); (case x0 => k_asm); (case x2 => k_mem); (case x3 => with_reducible assumption); (case x1 => with_reducible assumption); (case x4 => refine neA_all ?_; dsimp only [List.map]; with_reducible assumption); (case x5 => omega); (case x6 => omega); (case x7 => omega); (case cd => first | exact Nat.le_of_ble_eq_true rfl | ktr_room); (case cu => first | exact Nat.le_of_ble_eq_true rfl | ktr_units)); intro x9 t9 t29 k9 h9 tk9 F9 N9 hx9 hy9; (try dsimp only); (try k_fold)))
local macro_rules | `(tactic| walk_at "execs cons") => `(tactic| ((with_reducible show wpAny _ _ (execs (Stmt.If (Expr.UnaryOp _ _ _) _ _ _ :: _) _) _ _ _); refine Hold.mk ?_))
local macro_rules | `(tactic| walk_at "exec Assign cons ListComp") => `(tactic| refine Hold.mk ?_)
local macro_rules | `(tactic| walk_at "eval ListComp") => `(tactic| refine Hold.mk ?_)
local macro_rules | `(tactic| walk_at "CompSrc") => `(tactic| refine Hold.mk ?_)
local macro_rules | `(tactic| walk_at "CompSrcT") => `(tactic| refine Hold.mk ?_)
local macro_rules | `(tactic| walk_at "CompEnd") => `(tactic| refine Hold.mk ?_)
local macro_rules | `(tactic| walk_at "compareOp NotEq ref ref") => `(tactic| refine Hold.mk ?_)
local macro_rules | `(tactic| walk_at "subscriptTail Name Slice ref ref") => `(tactic| refine Hold.mk ?_)
local macro_rules | `(tactic| ktr_units) => `(tactic| exact Nat.le_of_ble_eq_true rfl)
local macro_rules | `(tactic| ktr_room) => `(tactic| exact Nat.le_of_ble_eq_true rfl)
omit B F X N T hk in
abbrev lsN {h₀ h : Heap} {L : Addr} {r : List (Addr × Obj)} (_ : News h₀ L h r) : List (Addr × Obj) := r
omit B F X N T hk in
theorem law_holds : PySem.Challenge.rw_pq0540_01.Holds := by
  refine hd ?_
  k_go0
  all_goals try k_fold
  rename IntsAre _ _ => hScr
  rename ¬ (_ : Int) < _ => hScrL
  rename Shared.gens _ = #[] => hgens
  rename Obj.data _ = Data.cell (bindC _ _ _ _) => lc
  have lc1 : _ = Data.cell none := lc
  clear lc
  rename Obj.data _ = Data.cell (bindC _ _ _ _) => lc
  have lc2 : _ = Data.cell none := lc
  clear lc
  rename Obj.data _ = Data.cell (bindC _ _ _ _) => lc
  have lc3 : _ = Data.cell none := lc
  clear lc
  rename Obj.data _ = Data.cell (bindC _ _ _ _) => lc
  have lc4 : _ = Data.cell none := lc
  clear lc
  rename Obj.data _ = Data.cell (bindC _ _ _ _) => lc
  have lc5 : _ = Data.cell none := lc
  clear lc
  k_steps
  refine Hold.out ?_
  k_dflt (refine LCg.ListComp_U (F₀ := by k_asm) (by with_unfolding_all rfl) (by decide) (by rfl) (by decide) (by rfl) ?_)
  k_steps
  refine Hold.out ?_
  k_dflt (refine' kms_slice_lit ?ya ?yb ?yc ?yd ?ye ?yf ?_ ?yg ?yh ?yi; (case ya => k_asm); (case yb => k_asm); (case yc => first | exact Fr.lst (by k_asm) (by assumption) | kmk_list); (case yd => kmk_part); (case ye => kmk_part); (case yf => exact pick_to (by omega)); (case yg => with_unfolding_all rfl); (case yh => kmk_pure); (case yi => size_fits))
  intro D0 h0 F0 N0 l0
  try k_lt l0
  k_steps
  have hScr2 := hScr.take 8
  refine Hold.out ?_
  refine LCg.CompSrc.ledger (by rfl) F0 N0 (.head _) (by simp only [List.size_toArray, sizeLine_eq]; have := hScr.length; simp only [List.length_take]; omega) fun g => comp_ind _ (fun i ys nw => nw = lsN N0 ∧ ∃ ms, IntsAre ys ms ∧ ys.length = i) ?fin ?step _ 0 [] _ (Nat.add_zero _) ⟨rfl, [], .nil, rfl⟩
  case step =>
    rintro i ys nw hi ⟨rfl, ms, hJ, hJl⟩ v I oI C oC D m2 h tk E' hv hNs hmx Fc Nc off ne
    obtain ⟨x, tx, rfl, hx⟩ := hScr2.at i v (by simpa using hv)
    dsimp only [lsN] at Nc off ⊢
    k_steps
    refine Hold.out ?_
    refine LCg.CompEnd.intro (by assumption) (by assumption) _ (fun p hp => hp) off (.inr ⟨_, .head _, rfl, _, rfl⟩) ⟨rfl, _, hJ.append (.cons _ _ .nil), by simp [hJl]⟩
  case fin =>
    rintro ys nw ⟨rfl, ms, hJ, hJl⟩
    intro D h tk FD ND oD
    dsimp only [lsN] at ND oD
    have hyl : ys.length ≤ 100 := by rw [hJl]; simp; omega
    dsimp only [LCg.Off1] at oD
    k_steps
    rename News _ _ _ _ => nQ
    have nQ2 := nQ.tail'
    clear nQ
    k_steps
    k_dflt (refine' take_spec ?cB ?cF ?cX ?cN ?cT ?ck ?x0 ?x1 ?x2 ?x3 ?x4 ?x5 ?x6 ?x7 ?cd ?cu ?_)
    case cB => k_asm
    case cF => k_asm
    case cX => k_asm
    case cN => k_asm
    case cT => k_asm
    case ck => exact rfl
    case x0 => k_asm
    case x2 => k_mem
    case x3 => with_reducible assumption
    case x1 => with_reducible assumption
    case x4 => refine neA_all ?_; dsimp only [List.map]; with_reducible assumption
    case x5 => omega
    case x6 => omega
    case x7 => omega
    case cd => exact Nat.le_of_ble_eq_true rfl
    case cu => exact Nat.le_of_ble_eq_true rfl
    intro x9 t9 t29 k9 h9 tk9 F9 N9 hx9 hy9
    (try dsimp only)
    (try k_fold)
    k_steps
    refine Hold.out ?_
    rename News _ _ _ _ => nZ
    have nY := nZ.tail'.tail'.tail'.tail'
    refine' wpAny_mono (law_rest ?aB ?aX ?aT codeHd ?aL ?b1 ?b2 ?b3 ?b4 ?b5 ?b6 ?b7 ?b8 ?d1 ?d2 ?d3 ?d4 ?d5 ?aF nY ?hQ) (fun _ _ h => h) (fun _ _ h => False.elim h)
    case aB => with_reducible assumption
    case aX => with_reducible assumption
    case aT => with_reducible assumption
    case aL => with_reducible assumption
    case aF => with_reducible assumption
    case d1 => with_reducible assumption
    case d2 => with_reducible assumption
    case d3 => with_reducible assumption
    case d4 => with_reducible assumption
    case d5 => with_reducible assumption
    case b1 => omega
    case b2 => omega
    case b3 => omega
    case b4 => omega
    case b5 => omega
    case b6 => omega
    case b7 => omega
    case b8 => omega
    case hQ =>
      intro m2 h2 tk2 F2 N2
      obtain ⟨ps, N2⟩ := N2
      clear nZ nY
      refine ⟨?q1, ?q2⟩
      case q2 => exact And.intro (GrownAt.of N2 (.head _)) True.intro
      case q1 =>
        refine goodW_bool F2 hgens (raisesW_false ?_) ?_
        · wrow_none_raised
        · kc_post

end
end Mine
end
set_option maxRecDepth 100000 in
set_option maxHeartbeats 8000000 in
theorem PySem.Challenge.cw_pq0540_01_holds : PySem.Challenge.rw_pq0540_01.Holds := by
  exact Mine.law_holds
