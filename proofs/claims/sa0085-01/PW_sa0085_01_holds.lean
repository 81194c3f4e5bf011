import PyProof.Rows.All
import Wide.All
import OpenK.AllK
import Wide.FinOn
import PySem.Challenge.RW_sa0085_01
set_option Elab.async false
set_option maxRecDepth 100000
set_option compiler.extract_closed false
namespace Mine
section
/-! what the defs of the text compute, in plain Lean -/

noncomputable def trim : List Int → List Int
  | [] => []
  | x :: r => if x = 0 ∧ trim r = [] then [] else x :: trim r

noncomputable def cut (ns : List Int) (i : Nat) : Int := ns.getD i 0

noncomputable def addL (a b : List Int) : List Int := (List.range (max a.length b.length)).map fun i => cut a i + cut b i
noncomputable def pAdd (a b : List Int) : List Int := trim (addL a b)
noncomputable def pNeg (a : List Int) : List Int := a.map fun x => -x
noncomputable def pSub (a b : List Int) : List Int := pAdd a (pNeg b)
noncomputable def pScale (a : List Int) (k : Int) : List Int := if k = 0 then [] else a.map fun x => x * k
noncomputable def pRaise (a : List Int) (n : Nat) : List Int := if a = [] then [] else List.replicate n 0 ++ a
noncomputable def lead (a : List Int) : Int := cut a (a.length - 1)
noncomputable def content (a : List Int) : Int := a.foldl (fun g x => (Int.gcd g x : Int)) 0
noncomputable def pDiv (a : List Int) (d : Int) : List Int := a.map fun x => x.fdiv d

theorem trim_length (ns : List Int) : (trim ns).length ≤ ns.length := by
  induction ns with
  | nil => simp [trim]
  | cons x r ih =>
    rw [trim]; split
    · simp
    · simpa using ih

theorem cut_trim (ns : List Int) (i : Nat) : cut (trim ns) i = cut ns i := by
  induction ns generalizing i with
  | nil => simp [trim, cut]
  | cons x r ih =>
    rw [trim]; split
    · rename_i h
      cases i with
      | zero => simp [cut, h.1]
      | succ i =>
        have := ih i
        rw [h.2] at this
        simpa [cut] using this
    · cases i with
      | zero => simp [cut]
      | succ i => simpa [cut] using ih i

theorem trim_eq_nil {ns : List Int} : trim ns = [] ↔ ∀ x ∈ ns, x = 0 := by
  induction ns with
  | nil => simp [trim]
  | cons x r ih =>
    rw [trim]; split
    · rename_i h; simp [h.1]; exact ih.mp h.2
    · rename_i h
      simp only [List.mem_cons, forall_eq_or_imp, reduceCtorEq, false_iff]
      intro h'; exact h ⟨h'.1, ih.mpr h'.2⟩

theorem trim_lead (ns : List Int) : trim ns = [] ∨ lead (trim ns) ≠ 0 := by
  induction ns with
  | nil => simp [trim]
  | cons x r ih =>
    rw [trim]; split
    · exact .inl rfl
    · rename_i h
      refine .inr ?_
      rcases ih with ih | ih
      · have hx : x ≠ 0 := fun e => h ⟨e, ih⟩
        simpa [lead, cut, ih] using hx
      · cases hr : trim r with
        | nil => rw [hr] at ih; simp [lead, cut] at ih
        | cons y t =>
          rw [hr] at ih
          simpa [lead, cut] using ih

theorem trim_mem {ns : List Int} {x : Int} (h : x ∈ trim ns) : x ∈ ns := by
  induction ns with
  | nil => simp [trim] at h
  | cons y r ih =>
    rw [trim] at h; split at h
    · simp at h
    · rcases List.mem_cons.mp h with rfl | h
      · exact .head _
      · exact .tail _ (ih h)

/-- what the loop of ztrim leaves -/
theorem take_eq_trim : ∀ (ns : List Int) (k : Nat), k ≤ ns.length → (∀ j, k ≤ j → j < ns.length → cut ns j = 0) → (k = 0 ∨ cut ns (k - 1) ≠ 0) → ns.take k = trim ns
  | [], k, hk, _, _ => by simp [trim]
  | x :: r, 0, _, h0, _ => by
    have h1 : trim r = [] := by
      rw [trim_eq_nil]
      intro y hy
      obtain ⟨i, hi, rfl⟩ := List.mem_iff_getElem.mp hy
      have := h0 (i + 1) (Nat.zero_le _) (by simpa using hi)
      simpa [cut, hi] using this
    have h2 : x = 0 := by simpa [cut] using h0 0 (Nat.le_refl _) (by simp)
    simp [trim, h1, h2]
  | x :: r, k + 1, hk, h0, h1 => by
    have ih := take_eq_trim r k (by simpa using hk) (fun j hj hl => by
      have := h0 (j + 1) (by lia) (by simpa using hl)
      simpa [cut] using this) (by
        cases k with
        | zero => exact .inl rfl
        | succ k =>
          refine .inr ?_
          rcases h1 with h1 | h1
          · exact absurd h1 (by simp)
          · simpa [cut] using h1)
    rw [List.take_succ_cons, ih, trim]
    split
    · rename_i h
      cases k with
      | zero =>
        rcases h1 with h1 | h1
        · exact absurd h1 (by simp)
        · simp [cut, h.1] at h1
      | succ k =>
        rw [h.2] at ih
        have hr : r ≠ [] := by rintro rfl; simp at hk
        cases r with
        | nil => exact absurd rfl hr
        | cons y t => simp at ih
    · rfl

theorem pNeg_length (a : List Int) : (pNeg a).length = a.length := by simp [pNeg]
theorem pDiv_length (a : List Int) (d : Int) : (pDiv a d).length = a.length := by simp [pDiv]
theorem pAdd_len {a b : List Int} {n : Nat} (ha : a.length ≤ n) (hb : b.length ≤ n) : (pAdd a b).length ≤ n := by
  unfold pAdd addL
  refine Nat.le_trans (trim_length _) ?_
  rw [List.length_map, List.length_range]; lia
theorem pSub_len {a b : List Int} {n : Nat} (ha : a.length ≤ n) (hb : b.length ≤ n) : (pSub a b).length ≤ n := pAdd_len ha (by rw [pNeg_length]; exact hb)
theorem pScale_len {a : List Int} {k : Int} {n : Nat} (ha : a.length ≤ n) : (pScale a k).length ≤ n := by
  unfold pScale; split
  · exact Nat.zero_le _
  · simpa using ha
theorem pRaise_len {a : List Int} {k n : Nat} (ha : k + a.length ≤ n) : (pRaise a k).length ≤ n := by
  unfold pRaise; split
  · exact Nat.zero_le _
  · simpa using ha
theorem trim_len {a : List Int} {n : Nat} (ha : a.length ≤ n) : (trim a).length ≤ n := Nat.le_trans (trim_length a) ha

/-- f as a row of numbers, moved up by i places -/
noncomputable def shf (i : Nat) (f : Nat → Int) (k : Nat) : Int := if i ≤ k then f (k - i) else 0
noncomputable def comb (c : Nat → Int) (f : Nat → Int) : Nat → Nat → Int
  | 0, _ => 0
  | n + 1, k => comb c f n k + c n * shf n f k

theorem addL_cut (a b : List Int) (i : Nat) : cut (addL a b) i = cut a i + cut b i := by
  unfold addL cut
  by_cases h : i < max a.length b.length
  · simp [List.getD_eq_getElem?_getD, h]
  · have h1 : a.length ≤ i := by omega
    have h2 : b.length ≤ i := by omega
    simp [List.getD_eq_getElem?_getD, h1, h2, h]
theorem cut_pAdd (a b : List Int) (i : Nat) : cut (pAdd a b) i = cut a i + cut b i := by rw [pAdd, cut_trim, addL_cut]
theorem cut_map (f : Int → Int) (h0 : f 0 = 0) (a : List Int) (i : Nat) : cut (a.map f) i = f (cut a i) := by
  unfold cut
  by_cases h : i < a.length
  · simp [List.getD_eq_getElem?_getD, h]
  · have h1 : a.length ≤ i := by lia
    simp [List.getD_eq_getElem?_getD, h1, h0]
theorem cut_pNeg (a : List Int) (i : Nat) : cut (pNeg a) i = - cut a i := cut_map _ (by simp) _ _
theorem cut_pSub (a b : List Int) (i : Nat) : cut (pSub a b) i = cut a i - cut b i := by rw [pSub, cut_pAdd, cut_pNeg]; lia
theorem cut_pScale (a : List Int) (k : Int) (i : Nat) : cut (pScale a k) i = cut a i * k := by
  unfold pScale; split
  · rename_i h; subst h; simp [cut]
  · exact cut_map _ (by simp) _ _
theorem cut_pRaise (a : List Int) (n i : Nat) : cut (pRaise a n) i = shf n (cut a) i := by
  unfold pRaise shf cut; split
  · rename_i h; subst h; simp
  · by_cases h : n ≤ i
    · rw [if_pos h]; simp [List.getD_eq_getElem?_getD, List.getElem?_append_right, h]
    · rw [if_neg h]
      have h' : i < n := by lia
      simp [List.getD_eq_getElem?_getD, List.getElem?_append_left, List.getElem?_replicate, h']
theorem cut_high {a : List Int} {i : Nat} (h : a.length ≤ i) : cut a i = 0 := by
  unfold cut; rw [List.getD_eq_getElem?_getD, List.getElem?_eq_none h]; rfl
/-- a row whose numbers from n on are 0 is trimmed to n places at most -/
theorem trim_short (ns : List Int) (n : Nat) (h : ∀ i, n ≤ i → cut ns i = 0) : (trim ns).length ≤ n := by
  rcases trim_lead ns with e | e
  · rw [e]; exact Nat.zero_le _
  · refine Nat.le_of_not_lt fun hlt => e ?_
    unfold lead
    rw [cut_trim]
    exact h _ (by omega)
theorem pSub_short {a b : List Int} {n : Nat} (h : ∀ i, n ≤ i → cut a i - cut b i = 0) : (pSub a b).length ≤ n := by
  refine trim_short _ _ fun i hi => ?_
  rw [addL_cut, cut_pNeg]
  have := h i hi
  lia
/-! numbers less numbers: small terms in place of omega's -/
theorem na1 {B C j : Nat} (h2 : C < B) (h3 : j ≤ C - 1) (h4 : 0 < C) : j + 1 < B := Nat.lt_of_le_of_lt (Nat.add_le_of_le_sub h4 h3) h2
theorem na3 {A B j : Nat} (h1 : B ≤ A) (h : j + 1 < B) : B - 1 - j - 1 + (A - B) = A - 1 - j - 1 := by
  rw [Nat.sub_sub, Nat.sub_sub, Nat.sub_sub, Nat.sub_sub, Nat.add_comm, Nat.sub_add_sub_cancel h1 (by rw [Nat.add_comm]; exact h)]
theorem na4 {B j : Nat} (h : j + 1 < B) : B - 1 - j - 1 + 1 = B - 1 - j := Nat.sub_add_cancel (Nat.le_sub_of_add_le (Nat.le_sub_of_add_le (by rw [Nat.add_comm 1 j]; exact h)))
theorem na5 {A B C j : Nat} (h1 : B ≤ A) (h2 : C < B) (h3 : j ≤ C - 1) (h4 : 0 < C) : A - 1 - (C - 1) + (C - 1 - j) = A - B + (B - 1 - j - 1) + 1 := by
  have h := na1 h2 h3 h4
  rw [Nat.add_comm (A - B), na3 h1 h, na4 (Nat.lt_of_lt_of_le h h1), Nat.sub_add_sub_cancel (Nat.sub_le_sub_right (Nat.le_trans (Nat.le_of_lt h2) h1) 1) h3]
theorem na6 {A B : Nat} (hA : 1 ≤ A) (hB : 1 ≤ B) : A - 1 + 1 - (B - 1) = A + 1 - B := by rw [Nat.sub_add_cancel hA, Nat.sub_sub_right _ hB]
theorem na8 {A B : Nat} (h : B < A) : A - B - 1 + 1 = A - B := Nat.sub_add_cancel (Nat.sub_pos_of_lt h)
theorem na9 {A B : Nat} (h : B < A) (h0 : 0 < B) : A - 1 - (B - 1) - 1 = A - B - 1 := by rw [Nat.sub_sub_right _ h0, Nat.sub_add_cancel (Nat.le_trans h0 (Nat.le_of_lt h))]
theorem na10 {B b0 a0 : Nat} (h : 2 ≤ B) (h1 : B ≤ b0) (h2 : b0 ≤ a0) : 2 * (B - 2) < a0 - 1 + (b0 - 1) := by
  rw [Nat.two_mul]; exact Nat.add_lt_add_of_le_of_lt (Nat.le_trans (Nat.sub_le_sub_left (by decide) B) (Nat.sub_le_sub_right (Nat.le_trans h1 h2) 1)) (Nat.lt_of_lt_of_le (Nat.sub_lt_sub_left h (by decide)) (Nat.sub_le_sub_right h1 1))
theorem na11 {A B b0 a0 : Nat} (h : 2 ≤ B) (h1 : B ≤ b0) (h2 : A ≤ a0) (h3 : B < A) : 2 * (B - 1) < a0 - 1 + (b0 - 1) := by
  rw [Nat.two_mul]; exact Nat.add_lt_add_of_lt_of_le (Nat.sub_lt_sub_right (Nat.le_of_succ_le h) (Nat.lt_of_lt_of_le h3 h2)) (Nat.sub_le_sub_right h1 1)
theorem na12 {A B : Nat} (h1 : B ≤ A) (h : 2 ≤ B) : A - 1 - (B - 2) = A - B + 1 := by
  rw [Nat.sub_sub_right _ h, ← Nat.sub_add_comm (Nat.le_trans (Nat.le_of_succ_le h) h1)]; exact Nat.sub_add_comm h1
theorem na13 {A B : Nat} (h1 : B ≤ A) : ((A : Int) - B + 1).toNat = A - B + 1 := by rw [← Int.ofNat_sub h1]; rfl
theorem na14 {A B : Nat} (h : ¬ B < A) : ¬ A - B > 0 := fun q => h (Nat.lt_of_sub_pos q)
theorem na15 {B : Nat} (h : 2 ≤ B) : B - 1 - (B - 2) = 1 := by rw [Nat.sub_sub_right _ h, ← Nat.sub_add_comm (Nat.le_of_succ_le h)]; exact Nat.add_sub_cancel_left B 1
theorem na16 {B c : Nat} (h : 2 ≤ B) (h1 : B ≤ c) : B - 2 ≤ c - 1 := Nat.le_trans (Nat.sub_le_sub_left (by decide) B) (Nat.sub_le_sub_right h1 1)
theorem na17 {B : Nat} (h : 2 ≤ B) : B - 2 < B - 1 := Nat.sub_lt_sub_left h (by decide)
theorem nb1 {j m n : Nat} (h1 : j ≤ m) (h2 : j ≤ n) : m + n - 2 * j = (n - j) + (m - j) := by rw [Nat.two_mul, ← Nat.sub_sub, Nat.add_comm m n, Nat.sub_add_comm h2, Nat.add_sub_assoc h1]
theorem nb2 {j m n : Nat} (h1 : j ≤ m) (h2 : j < n) : m + n - 2 * j - 1 + 1 = (n - j) + (m - j) := by
  rw [Nat.sub_add_cancel (by rw [nb1 h1 (Nat.le_of_lt h2)]; exact Nat.le_trans (Nat.sub_pos_of_lt h2) (Nat.le_add_right _ _)), nb1 h1 (Nat.le_of_lt h2)]
theorem nb3 {j m n : Nat} (h1 : j ≤ m) (h2 : j < n) : m - j + (n - j - 1) = m + n - 2 * j - 1 := by
  rw [nb1 h1 (Nat.le_of_lt h2), Nat.add_comm, ← Nat.sub_add_comm (Nat.sub_pos_of_lt h2)]
theorem nb5 {j k m : Nat} (h1 : j ≤ k) (h2 : k ≤ m) : k - j + (m - k) = m - j := by rw [Nat.add_comm, Nat.sub_add_sub_cancel h2 h1]
end
section
/-! alternating forms on rows of numbers; the rows' determinant by the top column (Laplace) -/
noncomputable abbrev Rw := Nat → Int
noncomputable def radd (R S : Rw) : Rw := fun k => R k + S k
noncomputable def rsm (c : Int) (R : Rw) : Rw := fun k => c * R k
noncomputable def rz : Rw := fun _ => 0

structure Alt (F : List Rw → Int) (l : Nat) : Prop where
  add : ∀ p R S q, p.length + q.length + 1 = l → F (p ++ radd R S :: q) = F (p ++ R :: q) + F (p ++ S :: q)
  smul : ∀ p c R q, p.length + q.length + 1 = l → F (p ++ rsm c R :: q) = c * F (p ++ R :: q)
  swap : ∀ p R S q, p.length + q.length + 2 = l → F (p ++ R :: S :: q) = - F (p ++ S :: R :: q)

noncomputable def lap (N : Nat) (F : List Rw → Int) : List Rw → List Rw → Int
  | _, [] => 0
  | acc, R :: r => R N * F (acc ++ r) - lap N F (acc ++ [R]) r

theorem lap_swapA (N : Nat) {F : List Rw → Int} {l : Nat} (h : Alt F l) (p : List Rw) (R S : Rw) : ∀ (r m : List Rw), p.length + m.length + r.length + 2 = l + 1 →
    lap N F (p ++ R :: S :: m) r = - lap N F (p ++ S :: R :: m) r
  | [], m, _ => by simp [lap]
  | T :: r, m, hl => by
    simp only [lap]
    have h1 := h.swap p R S (m ++ r) (by simp at hl ⊢; lia)
    have h2 := lap_swapA N h p R S r (m ++ [T]) (by simp at hl ⊢; lia)
    simp only [List.append_assoc, List.cons_append] at h1 h2 ⊢
    rw [h1, h2]
    rw [Int.mul_neg]; lia
theorem lap_add (N : Nat) {F : List Rw → Int} {l : Nat} (h : Alt F l) (R S : Rw) (q : List Rw) : ∀ (p acc : List Rw), acc.length + p.length + q.length + 1 = l + 1 →
    lap N F acc (p ++ radd R S :: q) = lap N F acc (p ++ R :: q) + lap N F acc (p ++ S :: q)
  | [], acc, hl => by
    simp only [List.nil_append, lap]
    have key : ∀ (r m : List Rw), acc.length + m.length + r.length + 1 = l + 1 → lap N F (acc ++ radd R S :: m) r = lap N F (acc ++ R :: m) r + lap N F (acc ++ S :: m) r := by
      intro r
      induction r with
      | nil => intro m _; simp [lap]
      | cons T r ih =>
        intro m hm
        simp only [lap]
        have h1 := h.add acc R S (m ++ r) (by simp at hm ⊢; lia)
        have h2 := ih (m ++ [T]) (by simp at hm ⊢; lia)
        simp only [List.append_assoc, List.cons_append] at h1 h2 ⊢
        rw [h1, h2, Int.mul_add]; lia
    have h1 := key q [] (by simp at hl ⊢; lia)
    rw [h1]
    show (R N + S N) * _ - _ = _
    rw [Int.add_mul]; lia
  | T :: p, acc, hl => by
    simp only [List.cons_append, lap]
    have h1 := h.add (acc ++ p) R S q (by simp at hl ⊢; lia)
    have h2 := lap_add N h R S q p (acc ++ [T]) (by simp at hl ⊢; lia)
    simp only [List.append_assoc] at h1
    rw [h1, h2, Int.mul_add]; lia
theorem lap_smul (N : Nat) {F : List Rw → Int} {l : Nat} (h : Alt F l) (c : Int) (R : Rw) (q : List Rw) : ∀ (p acc : List Rw), acc.length + p.length + q.length + 1 = l + 1 →
    lap N F acc (p ++ rsm c R :: q) = c * lap N F acc (p ++ R :: q)
  | [], acc, hl => by
    simp only [List.nil_append, lap]
    have key : ∀ (r m : List Rw), acc.length + m.length + r.length + 1 = l + 1 → lap N F (acc ++ rsm c R :: m) r = c * lap N F (acc ++ R :: m) r := by
      intro r
      induction r with
      | nil => intro m _; simp [lap]
      | cons T r ih =>
        intro m hm
        simp only [lap]
        have h1 := h.smul acc c R (m ++ r) (by simp at hm ⊢; lia)
        have h2 := ih (m ++ [T]) (by simp at hm ⊢; lia)
        simp only [List.append_assoc, List.cons_append] at h1 h2 ⊢
        rw [h1, h2, Int.mul_sub, Int.mul_left_comm]
    have h1 := key q [] (by simp at hl ⊢; lia)
    rw [h1]
    show c * R N * _ - _ = _
    rw [Int.mul_sub, Int.mul_assoc]
  | T :: p, acc, hl => by
    simp only [List.cons_append, lap]
    have h1 := h.smul (acc ++ p) c R q (by simp at hl ⊢; lia)
    have h2 := lap_smul N h c R q p (acc ++ [T]) (by simp at hl ⊢; lia)
    simp only [List.append_assoc] at h1
    rw [h1, h2, Int.mul_sub, Int.mul_left_comm]
theorem lap_swap (N : Nat) {F : List Rw → Int} {l : Nat} (h : Alt F l) (R S : Rw) (q : List Rw) : ∀ (p acc : List Rw), acc.length + p.length + q.length + 2 = l + 1 →
    lap N F acc (p ++ R :: S :: q) = - lap N F acc (p ++ S :: R :: q)
  | [], acc, hl => by
    simp only [List.nil_append, lap]
    have h1 := lap_swapA N h acc R S q [] (by simp at hl ⊢; lia)
    simp only [List.append_assoc, List.cons_append, List.nil_append] at h1 ⊢
    rw [h1]; lia
  | T :: p, acc, hl => by
    simp only [List.cons_append, lap]
    have h1 := h.swap (acc ++ p) R S q (by simp at hl ⊢; lia)
    have h2 := lap_swap N h R S q p (acc ++ [T]) (by simp at hl ⊢; lia)
    simp only [List.append_assoc] at h1
    rw [h1, h2, Int.mul_neg]; lia
theorem lap_alt (N : Nat) {F : List Rw → Int} {l : Nat} (h : Alt F l) : Alt (lap N F []) (l + 1) :=
  ⟨fun p R S q hl => lap_add N h R S q p [] (by simpa using hl), fun p c R q hl => lap_smul N h c R q p [] (by simpa using hl), fun p R S q hl => lap_swap N h R S q p [] (by simp; lia)⟩

/-- n + 1 rows, columns n + j down to j + 1 and then column k -/
noncomputable def DP (j k : Nat) : Nat → List Rw → Int
  | 0, rows => match rows with | [R] => R k | _ => 0
  | n + 1, rows => lap (n + 1 + j) (DP j k n) [] rows
theorem DP_alt (j k : Nat) : ∀ n, Alt (DP j k n) (n + 1)
  | 0 => ⟨fun p R S q hl => by
      have hp : p = [] := List.length_eq_zero_iff.mp (by lia)
      have hq : q = [] := List.length_eq_zero_iff.mp (by lia)
      subst hp hq; rfl, fun p c R q hl => by
      have hp : p = [] := List.length_eq_zero_iff.mp (by lia)
      have hq : q = [] := List.length_eq_zero_iff.mp (by lia)
      subst hp hq; rfl, fun p R S q hl => by lia⟩
  | n + 1 => lap_alt _ (DP_alt j k n)

section
variable {F : List Rw → Int} {l : Nat}
theorem Alt.zero (h : Alt F l) {p q : List Rw} (hl : p.length + q.length + 1 = l) : F (p ++ rz :: q) = 0 := by
  have := h.smul p 0 rz q hl
  have e : rsm 0 rz = rz := by funext k; simp [rsm, rz]
  rw [e] at this; lia
theorem Alt.adj (h : Alt F l) {p q : List Rw} {R : Rw} (hl : p.length + q.length + 2 = l) : F (p ++ R :: R :: q) = 0 := by
  have := h.swap p R R q hl; lia
noncomputable def sg (n : Nat) : Int := if n % 2 = 0 then 1 else -1
theorem sg_succ (n : Nat) : sg (n + 1) = - sg n := by
  unfold sg; rcases Nat.mod_two_eq_zero_or_one n with h | h
  · have : (n + 1) % 2 = 1 := by lia
    simp [h, this]
  · have : (n + 1) % 2 = 0 := by lia
    simp [h, this]
theorem sg_add (a b : Nat) : sg (a + b) = sg a * sg b := by
  induction b with
  | zero => simp [sg]
  | succ b ih => rw [← Nat.add_assoc, sg_succ, sg_succ, ih, Int.mul_neg]
theorem sg_sq (a : Nat) : sg a * sg a = 1 := by unfold sg; split <;> rfl
theorem sg_or (a : Nat) : sg a = 1 ∨ sg a = -1 := by unfold sg; split <;> simp
theorem Alt.move (h : Alt F l) (R : Rw) : ∀ (m p q : List Rw), p.length + m.length + q.length + 1 = l → F (p ++ R :: (m ++ q)) = sg m.length * F (p ++ m ++ R :: q)
  | [], p, q, _ => by simp [sg]
  | T :: m, p, q, hl => by
    have h1 := h.swap p R T (m ++ q) (by simp at hl ⊢; lia)
    have h2 := h.move R m (p ++ [T]) q (by simp at hl ⊢; lia)
    simp only [List.append_assoc, List.cons_append, List.nil_append] at h1 h2 ⊢
    rw [h1, h2, List.length_cons, sg_succ, Int.neg_mul]
theorem Alt.twice (h : Alt F l) (R : Rw) (m p q : List Rw) (hl : p.length + m.length + q.length + 2 = l) : F (p ++ R :: (m ++ R :: q)) = 0 := by
  rw [h.move R m p (R :: q) (by simp; omega), show p ++ m ++ R :: R :: q = (p ++ m) ++ R :: R :: q from rfl, h.adj (by simp; omega), Int.mul_zero]
/-- a sum of multiples of rows that stand behind it -/
theorem Alt.rows (h : Alt F l) (p m q : List Rw) (R : Rw) (B : List Rw) (hB : ∀ S ∈ B, S ∈ q) (c : List Int) (hc : c.length = B.length) (hl : p.length + m.length + q.length + 1 = l) :
    F (p ++ radd R ((c.zip B).foldr (fun x T => radd (rsm x.1 x.2) T) rz) :: (m ++ q)) = F (p ++ R :: (m ++ q)) := by
  rw [h.add p _ _ _ (by simp; lia)]
  have key : ∀ (L : List (Int × Rw)), (∀ x ∈ L, x.2 ∈ q) → F (p ++ (L.foldr (fun x T => radd (rsm x.1 x.2) T) rz) :: (m ++ q)) = 0 := by
    intro L
    induction L with
    | nil => intro _; exact h.zero (by simp; lia)
    | cons x L ih =>
      intro hx
      rw [List.foldr_cons, h.add p _ _ _ (by simp; lia), h.smul p _ _ _ (by simp; lia), ih fun y hy => hx y (.tail _ hy)]
      obtain ⟨q1, q2, e⟩ := List.append_of_mem (hx x (.head _))
      have h0 : F (p ++ x.2 :: (m ++ q)) = 0 := by
        rw [e, ← List.append_assoc]
        exact h.twice x.2 (m ++ q1) p q2 (by rw [e] at hl; simp at hl ⊢; lia)
      rw [h0]; simp
  rw [key (c.zip B) fun x hx => hB _ (List.of_mem_zip hx).2]; lia
theorem Alt.block (h : Alt F l) : ∀ (A B p q : List Rw), p.length + A.length + B.length + q.length = l → F (p ++ (A ++ (B ++ q))) = sg (A.length * B.length) * F (p ++ (B ++ (A ++ q)))
  | [], B, p, q, _ => by simp [sg]
  | R :: A, B, p, q, hl => by
    have h1 := h.block A B (p ++ [R]) q (by simp at hl ⊢; lia)
    have h2 := h.move R B p (A ++ q) (by simp at hl ⊢; lia)
    simp only [List.append_assoc, List.cons_append, List.nil_append] at h1 h2 ⊢
    rw [h1, h2, List.length_cons, Nat.succ_mul, sg_add, Int.mul_assoc]
end

theorem lap_zero (N : Nat) (F : List Rw → Int) : ∀ (r acc : List Rw), (∀ R ∈ r, R N = 0) → lap N F acc r = 0
  | [], _, _ => rfl
  | R :: r, acc, h => by
    simp only [lap]
    rw [h R (.head _), lap_zero N F r _ fun S hS => h S (.tail _ hS)]; lia
theorem DP_peel {j k n : Nat} {R : Rw} {rows : List Rw} (h : ∀ S ∈ rows, S (n + 1 + j) = 0) : DP j k (n + 1) (R :: rows) = R (n + 1 + j) * DP j k n rows := by
  show lap _ _ [] (R :: rows) = _
  simp only [lap, List.nil_append]
  rw [lap_zero _ _ _ _ h]; lia
end
section
inductive Spn (q : List Rw) : Rw → Prop
  | zero : Spn q rz
  | cons (c : Int) {S T : Rw} : S ∈ q → Spn q T → Spn q (radd (rsm c S) T)
theorem Alt.span {F : List Rw → Int} {l : Nat} (h : Alt F l) (p m q : List Rw) (R : Rw) {T : Rw} (hT : Spn q T) (hl : p.length + m.length + q.length + 1 = l) :
    F (p ++ radd R T :: (m ++ q)) = F (p ++ R :: (m ++ q)) := by
  rw [h.add p _ _ _ (by simp; lia)]
  have key : F (p ++ T :: (m ++ q)) = 0 := by
    induction hT with
    | zero => exact h.zero (by simp; lia)
    | @cons c S T' hS _ ih =>
      rw [h.add p _ _ _ (by simp; lia), h.smul p _ _ _ (by simp; lia), ih]
      obtain ⟨q1, q2, e⟩ := List.append_of_mem hS
      have h0 : F (p ++ S :: (m ++ q)) = 0 := by
        rw [e, ← List.append_assoc]
        exact h.twice S (m ++ q1) p q2 (by rw [e] at hl; simp at hl ⊢; lia)
      rw [h0]; simp
  rw [key]; lia
theorem Spn.mono {q q' : List Rw} {T : Rw} (h : Spn q T) (hs : ∀ S ∈ q, S ∈ q') : Spn q' T := by
  induction h with
  | zero => exact .zero
  | cons c hS _ ih => exact .cons c (hs _ hS) ih

/-- f's rows k - 1 up, …, 0 up -/
noncomputable def blk (f : Rw) : Nat → List Rw
  | 0 => []
  | k + 1 => shf k f :: blk f k
theorem blk_len (f : Rw) (k : Nat) : (blk f k).length = k := by
  induction k with
  | zero => rfl
  | succ k ih => simp [blk, ih]
theorem blk_mem {f : Rw} {k i : Nat} (h : i < k) : shf i f ∈ blk f k := by
  induction k with
  | zero => lia
  | succ k ih =>
    by_cases e : i = k
    · subst e; exact .head _
    · exact .tail _ (ih (by lia))
theorem blk_of_mem {f S : Rw} {k : Nat} (h : S ∈ blk f k) : ∃ i, i < k ∧ S = shf i f := by
  induction k with
  | zero => cases h
  | succ k ih =>
    rcases List.mem_cons.mp h with e | h
    · exact ⟨k, by lia, e⟩
    · obtain ⟨i, hi, e⟩ := ih h
      exact ⟨i, by lia, e⟩
theorem spn_comb (b : Rw) (c : Nat → Int) (i N : Nat) : ∀ t, i + t ≤ N → Spn (blk b N) (shf i (comb c b t))
  | 0, _ => by
    have e : shf i (comb c b 0) = rz := by funext k; simp [shf, comb, rz]
    rw [e]; exact .zero
  | t + 1, h => by
    have e : shf i (comb c b (t + 1)) = radd (rsm (c t) (shf (i + t) b)) (shf i (comb c b t)) := by
      funext k
      simp only [shf, comb, radd, rsm]
      by_cases h1 : i ≤ k
      · by_cases h2 : t ≤ k - i
        · rw [if_pos h1, if_pos h2, if_pos h1, if_pos (by lia), Nat.sub_sub]; lia
        · rw [if_pos h1, if_neg h2, if_pos h1, if_neg (by lia)]; lia
      · rw [if_neg h1, if_neg h1, if_neg (by lia)]; lia
    rw [e]
    exact .cons _ (blk_mem (by lia)) (spn_comb b c i N t (by lia))
theorem Alt.scale {F : List Rw → Int} {l : Nat} (h : Alt F l) (x : Int) {a r T : Rw} (e : ∀ t, x * a t = T t + r t) (q : List Rw) : ∀ (k : Nat) (p : List Rw), (∀ i, i < k → Spn q (shf i T)) → p.length + k + q.length = l →
    x ^ k * F (p ++ (blk a k ++ q)) = F (p ++ (blk r k ++ q))
  | 0, p, _, _ => by simp [blk]
  | k + 1, p, hs, hl => by
    simp only [blk, List.cons_append]
    have h1 := h.scale x e q k (p ++ [shf k a]) (fun i hi => hs i (by lia)) (by simp; lia)
    simp only [List.append_assoc, List.cons_append, List.nil_append] at h1
    rw [Int.pow_succ, Int.mul_assoc, Int.mul_left_comm, h1, ← h.smul p x _ _ (by simp [blk_len]; lia)]
    have e2 : rsm x (shf k a) = radd (shf k r) (shf k T) := by
      funext t
      simp only [rsm, radd, shf]
      by_cases ht : k ≤ t
      · rw [if_pos ht, if_pos ht, if_pos ht, e]; lia
      · rw [if_neg ht, if_neg ht, if_neg ht]; lia
    rw [e2, h.span p (blk r k) q (shf k r) (hs k (by lia)) (by simp [blk_len]; lia)]
theorem shf_rz (i : Nat) : shf i rz = rz := by funext k; simp [shf, rz]
theorem Alt.homog {F : List Rw → Int} {l : Nat} (h : Alt F l) (x : Int) (a : Rw) (k : Nat) (p q : List Rw) (hl : p.length + k + q.length = l) :
    F (p ++ (blk (rsm x a) k ++ q)) = x ^ k * F (p ++ (blk a k ++ q)) :=
  (h.scale x (T := rz) (fun t => by simp [rz, rsm]) q k p (fun i _ => by rw [shf_rz]; exact .zero) hl).symm

/-- the rows of b that stand higher than all else are struck -/
theorem DP_strike {j κ n v s0 : Nat} {b : Rw} {R : List Rw} (hb : ∀ t, n < t → b t = 0) (hv : v + 1 + j = n) (hR : ∀ S ∈ R, ∀ t, s0 + n ≤ t → S t = 0) : ∀ d, DP j κ (s0 + d + v) (blk b (s0 + d) ++ R) = b n ^ d * DP j κ (s0 + v) (blk b s0 ++ R)
  | 0 => by simp
  | d + 1 => by
    have e1 : s0 + (d + 1) + v = (s0 + d + v) + 1 := by lia
    have e2 : s0 + (d + 1) = (s0 + d) + 1 := by lia
    rw [e1, e2]
    show DP j κ (s0 + d + v + 1) (shf (s0 + d) b :: (blk b (s0 + d) ++ R)) = _
    have hN : s0 + d + v + 1 + j = s0 + d + n := by lia
    rw [DP_peel, hN, DP_strike hb hv hR d, Int.pow_succ]
    · have : shf (s0 + d) b (s0 + d + n) = b n := by
        unfold shf; rw [if_pos (by lia)]; congr 1; lia
      rw [this, Int.mul_comm (b n ^ d) (b n), Int.mul_assoc]
    · intro S hS
      rw [hN]
      rcases List.mem_append.mp hS with hS | hS
      · obtain ⟨i, hi, rfl⟩ := blk_of_mem hS
        unfold shf; rw [if_pos (by lia)]; exact hb _ (by lia)
      · exact hR S hS _ (by lia)
theorem DP_own {j κ : Nat} {r : Rw} (hr : ∀ t, j < t → r t = 0) : ∀ v, DP j κ v (blk r (v + 1)) = r j ^ v * r κ
  | 0 => by
    show shf 0 r κ = _
    simp [shf]
  | v + 1 => by
    show DP j κ (v + 1) (shf (v + 1) r :: blk r (v + 1)) = _
    rw [DP_peel, DP_own hr v, Int.pow_succ]
    · have : shf (v + 1) r (v + 1 + j) = r j := by unfold shf; rw [if_pos (by lia)]; congr 1; lia
      rw [this]; grind
    · intro S hS
      obtain ⟨i, hi, rfl⟩ := blk_of_mem hS
      unfold shf; rw [if_pos (by lia)]; exact hr _ (by lia)

/-- the subresultant: its number at κ -/
noncomputable def Sj (j m n : Nat) (a b : Rw) (κ : Nat) : Int := DP j κ (m + n - 2 * j - 1) (blk a (n - j) ++ blk b (m - j))

theorem Sj_step {j k m n κ : Nat} {a b r : Rw} {c : Nat → Int} {x : Int} (hb : ∀ t, n < t → b t = 0) (hr : ∀ t, k < t → r t = 0) (hjk : j ≤ k) (hkn : k < n) (hnm : n ≤ m)
    (e : ∀ t, x * a t = comb c b (m + 1 - n) t + r t) : x ^ (n - j) * Sj j m n a b κ = sg ((n - j) * (m - j)) * b n ^ (m - k) * Sj j n k b r κ := by
  have A := DP_alt j κ (m + n - 2 * j - 1)
  have hkm := Nat.le_trans (Nat.le_of_lt hkn) hnm
  have hjn := Nat.lt_of_le_of_lt hjk hkn
  have hjm := Nat.le_trans hjk hkm
  have hl : m + n - 2 * j - 1 + 1 = (n - j) + (m - j) := nb2 hjm hjn
  have h1 := A.scale x e (blk b (m - j)) (n - j) [] (fun i hi => spn_comb b c i (m - j) _ (by lia)) (by simp [blk_len]; lia)
  have h2 := A.block (blk r (n - j)) (blk b (m - j)) [] [] (by simp [blk_len]; lia)
  simp only [List.nil_append, List.append_nil, blk_len] at h1 h2
  unfold Sj
  rw [h1, h2, Int.mul_assoc]
  congr 1
  have h3 := DP_strike (j := j) (κ := κ) (v := n - j - 1) (s0 := k - j) (R := blk r (n - j)) hb (by lia) (fun S hS t ht => by
    obtain ⟨i, hi, rfl⟩ := blk_of_mem hS
    unfold shf; rw [if_pos (by lia)]; exact hr _ (by lia)) (m - k)
  rw [nb5 hjk hkm, nb3 hjm hjn, nb3 hjk hjn, Nat.add_comm k n] at h3
  exact h3
theorem Sj_top {m n κ : Nat} {a b : Rw} (hb : ∀ t, n < t → b t = 0) (h : n < m) : Sj n m n a b κ = b n ^ (m - n - 1) * b κ := by
  unfold Sj
  rw [Nat.sub_self, show m + n - 2 * n - 1 = m - n - 1 by lia]
  show DP n κ (m - n - 1) (blk b (m - n)) = _
  rw [show m - n = (m - n - 1) + 1 by lia]
  exact DP_own hb _
theorem Sj_homog {j n k κ : Nat} {b C : Rw} (d : Int) (hj : j ≤ k) (hk : k < n) : Sj j n k b (rsm d C) κ = d ^ (n - j) * Sj j n k b C κ := by
  have A := DP_alt j κ (n + k - 2 * j - 1)
  have := A.homog d C (n - j) (blk b (k - j)) [] (by simp [blk_len]; lia)
  simpa [Sj] using this

/-! how great they are -/
theorem lap_bound {N M B : Nat} {F : List Rw → Int} : ∀ (r acc : List Rw), (∀ R ∈ r, (R N).natAbs ≤ M) → (∀ L : List Rw, (∀ R ∈ L, R ∈ acc ++ r) → L.length + 1 = acc.length + r.length → (F L).natAbs ≤ B) → (lap N F acc r).natAbs ≤ r.length * (M * B)
  | [], acc, _, _ => by simp [lap]
  | R :: r, acc, h, hF => by
    simp only [lap]
    have h1 := hF (acc ++ r) (fun S hS => by
      rcases List.mem_append.mp hS with hS | hS
      · exact List.mem_append_left _ hS
      · exact List.mem_append_right _ (.tail _ hS)) (by simp; omega)
    have h2 := lap_bound (B := B) (F := F) r (acc ++ [R]) (fun S hS => h S (.tail _ hS)) (fun L hL hl => hF L (fun S hS => by simpa using hL S hS) (by simp at hl ⊢; omega))
    have h3 := Nat.mul_le_mul (h R (.head _)) h1
    have h4 : (R N * F (acc ++ r)).natAbs = (R N).natAbs * (F (acc ++ r)).natAbs := Int.natAbs_mul _ _
    rw [List.length_cons, Nat.succ_mul]
    omega
noncomputable def dpB (M : Nat) : Nat → Nat
  | 0 => M
  | n + 1 => (n + 2) * (M * dpB M n)
theorem DP_bound {j κ M : Nat} : ∀ (n : Nat) (rows : List Rw), rows.length = n + 1 → (∀ R ∈ rows, ∀ t, (R t).natAbs ≤ M) → (DP j κ n rows).natAbs ≤ dpB M n
  | 0, rows, hl, h => by
    match rows, hl with
    | [R], _ => exact h R (.head _) κ
  | n + 1, rows, hl, h => by
    have := lap_bound (N := n + 1 + j) (M := M) (B := dpB M n) (F := DP j κ n) rows [] (fun R hR => h R hR _) (fun L hL hl' => DP_bound n L (by simp at hl'; lia) fun R hR => h R (by simpa using hL R hR))
    rw [hl] at this
    exact this
theorem Sj_bound {j m n κ M : Nat} {a b : Rw} (ha : ∀ t, (a t).natAbs ≤ M) (hb : ∀ t, (b t).natAbs ≤ M) (h : 2 * j < m + n) (hm : j ≤ m) (hn : j ≤ n) : (Sj j m n a b κ).natAbs ≤ dpB M (m + n - 2 * j - 1) := by
  refine DP_bound _ _ (by simp [blk_len]; lia) fun R hR t => ?_
  rcases List.mem_append.mp hR with hR | hR <;> obtain ⟨i, _, rfl⟩ := blk_of_mem hR <;> unfold shf <;> split
  · exact ha _
  · simp
  · exact hb _
  · simp
theorem dpB_small : ∀ n, n < 12 → dpB (2 ^ 20) n < 2 ^ 300 := by decide +kernel
end
section
/-- the unit row -/
noncomputable def un (i : Nat) : Rw := fun t => if t = i then 1 else 0
/-- the row without its number at q -/
noncomputable def wo (q : Nat) (R : Rw) : Rw := fun t => if t = q then 0 else R t
theorem split_row (q : Nat) (R : Rw) : R = radd (rsm (R q) (un q)) (wo q R) := by
  funext t; simp only [radd, rsm, un, wo]; split
  · rename_i h; subst h; lia
  · lia
theorem Alt.tail {F : List Rw → Int} {l : Nat} (h : Alt F (l + 1)) (e : Rw) : Alt (fun L => F (e :: L)) l :=
  ⟨fun p R S q hl => h.add (e :: p) R S q (by simp; lia), fun p c R q hl => h.smul (e :: p) c R q (by simp; lia), fun p R S q hl => h.swap (e :: p) R S q (by simp; lia)⟩
/-- beside the unit row at q the other rows may lose their number at q -/
theorem Alt.strip {F : List Rw → Int} {l : Nat} (h : Alt F l) (q : Nat) : ∀ (r p : List Rw), p.length + r.length + 1 = l → F (un q :: (p ++ r)) = F (un q :: (p ++ r.map (wo q)))
  | [], p, _ => rfl
  | R :: r, p, hl => by
    have h1 := h.strip q r (p ++ [wo q R]) (by simp at hl ⊢; lia)
    simp only [List.append_assoc, List.cons_append, List.nil_append] at h1
    rw [List.map_cons, ← h1]
    have e1 : F (un q :: (p ++ R :: r)) = F (un q :: (p ++ radd (rsm (R q) (un q)) (wo q R) :: r)) := by rw [← split_row]
    rw [e1]
    have h2 := h.add (un q :: p) (rsm (R q) (un q)) (wo q R) r (by simp at hl ⊢; lia)
    have h3 := h.smul (un q :: p) (R q) (un q) r (by simp at hl ⊢; lia)
    have h4 := h.twice (un q) p [] r (by simp at hl ⊢; lia)
    simp only [List.cons_append, List.nil_append] at h2 h3 h4
    rw [h2, h3, h4]; simp
theorem Alt.expand {F : List Rw → Int} {l : Nat} (h : Alt F l) (q : Nat) : ∀ (r acc : List Rw), acc.length + r.length = l →
    F (acc.map (wo q) ++ r) = F (acc.map (wo q) ++ r.map (wo q)) + sg acc.length * lap q (fun M => F (un q :: M.map (wo q))) acc r
  | [], acc, _ => by simp [lap]
  | R :: r, acc, hl => by
    have e1 : F (acc.map (wo q) ++ R :: r) = F (acc.map (wo q) ++ radd (rsm (R q) (un q)) (wo q R) :: r) := by rw [← split_row]
    have h2 := h.add (acc.map (wo q)) (rsm (R q) (un q)) (wo q R) r (by simp at hl ⊢; lia)
    have h3 := h.smul (acc.map (wo q)) (R q) (un q) r (by simp at hl ⊢; lia)
    have h4 := h.move (un q) (acc.map (wo q)) [] r (by simp at hl ⊢; lia)
    have h5 := h.strip q r (acc.map (wo q)) (by simp at hl ⊢; lia)
    have h6 := h.expand q r (acc ++ [R]) (by simp at hl ⊢; lia)
    simp only [List.nil_append, List.length_map, List.map_append, List.map_cons, List.map_nil, List.append_assoc, List.cons_append, List.length_append, List.length_cons, List.length_nil] at h4 h6
    have h7 : sg acc.length * F (un q :: (acc.map (wo q) ++ r)) = F (acc.map (wo q) ++ un q :: r) := by
      rw [h4, ← Int.mul_assoc, sg_sq, Int.one_mul]
    rw [e1, h2, h3, h6, ← h7, h5, List.map_cons]
    simp only [lap, List.map_append]
    rw [Nat.zero_add, sg_succ]
    grind
/-- rows that stand lower than their number are too many -/
theorem Alt.low {F : List Rw → Int} : ∀ (q l : Nat), Alt F l → q < l → ∀ (r : List Rw), r.length = l → (∀ R ∈ r, ∀ t, q ≤ t → R t = 0) → F r = 0 := by
  intro q
  induction q generalizing F with
  | zero =>
    intro l h hq r hr hs
    match r with
    | [] => simp at hr; lia
    | R :: r =>
      have : R = rz := by funext t; exact hs R (.head _) t (Nat.zero_le _)
      subst this
      exact h.zero (p := []) (q := r) (by simpa using hr)
  | succ q ih =>
    intro l h hq r hr hs
    have e := h.expand q r [] (by simpa using hr)
    simp only [List.map_nil, List.nil_append, List.length_nil] at e
    have hw : ∀ R, (∀ t, q + 1 ≤ t → R t = 0) → ∀ t, q ≤ t → wo q R t = 0 := fun R hR t ht => by
      unfold wo; split
      · rfl
      · exact hR t (by lia)
    have z1 : F (r.map (wo q)) = 0 := ih l h (by lia) _ (by simpa using hr) fun R hR => by
      obtain ⟨S, hS, rfl⟩ := List.mem_map.mp hR
      exact hw S (hs S hS)
    match l, h with
    | 0, h => lia
    | l + 1, h =>
      have z2 : ∀ (r' acc : List Rw), acc.length + r'.length = l + 1 → (∀ R ∈ acc ++ r', ∀ t, q + 1 ≤ t → R t = 0) → lap q (fun M => F (un q :: M.map (wo q))) acc r' = 0 := by
        intro r'
        induction r' with
        | nil => intro acc _ _; rfl
        | cons R r' ihr =>
          intro acc hl hs'
          simp only [lap]
          rw [ihr (acc ++ [R]) (by simp at hl ⊢; lia) (by simpa using hs')]
          have := ih l (h.tail (un q)) (by lia) ((acc ++ r').map (wo q)) (by simp at hl ⊢; lia) fun S hS => by
            obtain ⟨T, hT, rfl⟩ := List.mem_map.mp hS
            refine hw T (hs' T ?_)
            rcases List.mem_append.mp hT with hT | hT
            · exact List.mem_append_left _ hT
            · exact List.mem_append_right _ (.tail _ hT)
          rw [this]; simp
      rw [e, z1, z2 r [] (by simpa using hr) (by simpa using hs)]; simp
theorem lap_congr {N : Nat} {F G : List Rw → Int} {c : Int} : ∀ (r acc : List Rw), (∀ M : List Rw, M.length + 1 = acc.length + r.length → (∀ R ∈ M, R ∈ acc ++ r) → F M = G M * c) → lap N F acc r = lap N G acc r * c
  | [], _, _ => by simp [lap]
  | R :: r, acc, h => by
    simp only [lap]
    rw [lap_congr r (acc ++ [R]) (fun M hM hm => h M (by simp at hM ⊢; lia) (by simpa using hm)), h (acc ++ r) (by simp; lia) (fun S hS => by
      rcases List.mem_append.mp hS with hS | hS
      · exact List.mem_append_left _ hS
      · exact List.mem_append_right _ (.tail _ hS))]
    grind
theorem DP_wo {q : Nat} : ∀ (n : Nat), n < q → ∀ (r : List Rw), DP 0 0 n (r.map (wo q)) = DP 0 0 n r
  | 0, hq, r => by
    match r with
    | [] => rfl
    | [R] => show wo q R 0 = R 0; unfold wo; rw [if_neg (by lia)]
    | _ :: _ :: _ => rfl
  | n + 1, hq, r => by
    show lap _ _ [] _ = lap _ _ [] _
    have : ∀ (r acc : List Rw), lap (n + 1 + 0) (DP 0 0 n) (acc.map (wo q)) (r.map (wo q)) = lap (n + 1 + 0) (DP 0 0 n) acc r := by
      intro r
      induction r with
      | nil => intro acc; rfl
      | cons R r ih =>
        intro acc
        simp only [lap, List.map_cons]
        have h1 := ih (acc ++ [R])
        simp only [List.map_append, List.map_cons, List.map_nil] at h1
        rw [h1, ← List.map_append, DP_wo n (by lia)]
        congr 2
        unfold wo; rw [if_neg (by lia)]
    exact this r []
/-- the units, from the top down -/
noncomputable def uns : Nat → List Rw
  | 0 => []
  | q + 1 => un q :: uns q
theorem uns_len (q : Nat) : (uns q).length = q := by induction q with
  | zero => rfl
  | succ q ih => simp [uns, ih]
theorem uns_low {q : Nat} : ∀ R ∈ uns q, ∀ t, q ≤ t → R t = 0 := by
  induction q with
  | zero => intro R hR; cases hR
  | succ q ih =>
    intro R hR t ht
    rcases List.mem_cons.mp hR with rfl | hR
    · unfold un; rw [if_neg (by lia)]
    · exact ih R hR t (by lia)
theorem uns_wo {q p : Nat} (h : p ≤ q) : (uns p).map (wo q) = uns p := by
  induction p with
  | zero => rfl
  | succ p ih =>
    rw [uns, List.map_cons, ih (by lia)]
    congr 1
    funext t; unfold wo un; split
    · rw [if_neg (by lia)]
    · rfl
/-- an alternating form of q rows is their determinant times its value at the units -/
theorem Alt.unique : ∀ (q : Nat) {F : List Rw → Int}, Alt F (q + 1) → ∀ (r : List Rw), r.length = q + 1 → (∀ R ∈ r, ∀ t, q + 1 ≤ t → R t = 0) → F r = DP 0 0 q r * F (uns (q + 1))
  | 0, F, h, r, hr, hs => by
    match r, hr with
    | [R], _ =>
      have e : R = rsm (R 0) (un 0) := by
        funext t; unfold rsm un; split
        · rename_i h; subst h; lia
        · rw [hs R (.head _) t (by lia)]; lia
      have h1 := h.smul [] (R 0) (un 0) [] rfl
      simp only [List.nil_append] at h1
      rw [e, h1]
      show _ = rsm _ _ 0 * _
      simp [rsm, un, uns]
  | q + 1, F, h, r, hr, hs => by
    have e := h.expand (q + 1) r [] (by simpa using hr)
    simp only [List.map_nil, List.nil_append, List.length_nil] at e
    have hw : ∀ R, (∀ t, q + 2 ≤ t → R t = 0) → ∀ t, q + 1 ≤ t → wo (q + 1) R t = 0 := fun R hR t ht => by
      unfold wo; split
      · rfl
      · exact hR t (by lia)
    have z1 : F (r.map (wo (q + 1))) = 0 := h.low (q + 1) _ (by lia) _ (by simpa using hr) fun R hR => by
      obtain ⟨S, hS, rfl⟩ := List.mem_map.mp hR
      exact hw S (hs S hS)
    rw [e, z1]
    have : lap (q + 1) (fun M => F (un (q + 1) :: M.map (wo (q + 1)))) [] r = lap (q + 1) (DP 0 0 q) [] r * F (uns (q + 2)) := by
      refine lap_congr r [] fun M hM hm => ?_
      have := Alt.unique q (h.tail (un (q + 1))) (M.map (wo (q + 1))) (by simp at hM ⊢; lia) fun S hS => by
        obtain ⟨T, hT, rfl⟩ := List.mem_map.mp hS
        exact hw T (hs T (by simpa using hm T hT))
      rw [this, DP_wo q (by lia)]; rfl
    rw [this]
    show _ = lap (q + 1 + 0) (DP 0 0 q) [] r * _
    simp [sg]
end
section
theorem comb_radd (c : Nat → Int) (R S : Rw) : ∀ n, comb c (radd R S) n = radd (comb c R n) (comb c S n)
  | 0 => by funext t; simp [comb, radd]
  | n + 1 => by
    have ih := comb_radd c R S n
    funext t
    have e := congrFun ih t
    simp only [comb, radd, shf] at e ⊢
    rw [e]; split <;> grind
theorem comb_rsm (c : Nat → Int) (x : Int) (R : Rw) : ∀ n, comb c (rsm x R) n = rsm x (comb c R n)
  | 0 => by funext t; simp [comb, rsm]
  | n + 1 => by
    have ih := comb_rsm c x R n
    funext t
    have e := congrFun ih t
    simp only [comb, rsm, shf] at e ⊢
    rw [e]; split <;> grind
theorem comb_shf (c : Nat → Int) (i : Nat) (R : Rw) : ∀ n, comb c (shf i R) n = shf i (comb c R n)
  | 0 => by funext t; simp [comb, shf]
  | n + 1 => by
    have ih := comb_shf c i R n
    funext t
    have e := congrFun ih t
    simp only [comb, shf] at e ⊢
    rw [e]
    by_cases h1 : n ≤ t <;> by_cases h2 : i ≤ t
    · rw [if_pos h1]
      by_cases h3 : i ≤ t - n
      · rw [if_pos h3, if_pos h2, if_pos h2, if_pos (by omega), Nat.sub_right_comm]
      · rw [if_neg h3, if_pos h2, if_pos h2, if_neg (by omega), Int.mul_zero]
    · rw [if_pos h1, if_neg h2, if_neg h2, if_neg (by omega)]; simp
    · rw [if_neg h1, if_pos h2, if_pos h2, if_neg (by omega)]
    · rw [if_neg h1, if_neg h2, if_neg h2]; simp
theorem comb_un (c : Nat → Int) (j : Nat) : ∀ n t, comb c (un j) n t = if j ≤ t ∧ t - j < n then c (t - j) else 0
  | 0, t => by simp [comb]
  | n + 1, t => by
    simp only [comb, shf]
    rw [comb_un c j n t]
    unfold un
    by_cases h1 : n ≤ t
    · rw [if_pos h1]
      by_cases h2 : t - n = j
      · have : t - j = n := by lia
        rw [if_pos h2, if_neg (by lia), if_pos (by lia), this]; simp
      · rw [if_neg h2]
        by_cases h3 : j ≤ t ∧ t - j < n
        · rw [if_pos h3, if_pos (by lia)]; lia
        · rw [if_neg h3, if_neg (by lia)]; lia
    · rw [if_neg h1]
      by_cases h3 : j ≤ t ∧ t - j < n
      · rw [if_pos h3, if_pos (by lia)]; lia
      · rw [if_neg h3, if_neg (by lia)]; lia
theorem comb_low (c : Nat → Int) {R : Rw} {q : Nat} (h : ∀ t, q ≤ t → R t = 0) : ∀ n t, q + n ≤ t + 1 → comb c R n t = 0
  | 0, t, _ => by simp [comb]
  | n + 1, t, ht => by
    simp only [comb, shf]
    rw [comb_low c h n t (by lia)]
    split
    · rw [h _ (by lia)]; simp
    · simp
theorem shf_low {R : Rw} {q i : Nat} (h : ∀ t, q ≤ t → R t = 0) : ∀ t, q + i ≤ t → shf i R t = 0 := fun t ht => by
  unfold shf; rw [if_pos (by lia)]; exact h _ (by lia)
theorem blk_low {R : Rw} {q k : Nat} (h : ∀ t, q ≤ t → R t = 0) : ∀ S ∈ blk R k, ∀ t, q + k ≤ t + 1 → S t = 0 := fun S hS t ht => by
  obtain ⟨i, hi, rfl⟩ := blk_of_mem hS
  exact shf_low h t (by lia)
theorem blk_map (c : Nat → Int) (n : Nat) (f : Rw) : ∀ k, (blk f k).map (fun R => comb c R n) = blk (comb c f n) k
  | 0 => rfl
  | k + 1 => by simp only [blk, List.map_cons, comb_shf, blk_map c n f k]
theorem uns_map {g : Rw} {n : Nat} (hg : ∀ t, n < t → g t = 0) : ∀ q, (uns q).map (fun R => comb g R (n + 1)) = blk g q
  | 0 => rfl
  | q + 1 => by
    simp only [uns, blk, List.map_cons, uns_map hg q]
    congr 1
    funext t
    rw [comb_un]
    unfold shf
    by_cases h : q ≤ t
    · rw [if_pos h]
      by_cases h2 : t - q < n + 1
      · rw [if_pos ⟨h, h2⟩]
      · rw [if_neg (by lia), hg _ (by lia)]
    · rw [if_neg h, if_neg (by lia)]
/-- the form of the rows' multiples -/
theorem Alt.pull {F : List Rw → Int} {l a b : Nat} (h : Alt F l) (c : Nat → Int) (n : Nat) (Z : List Rw) (hz : Z.length = b) (hl : l = a + b) : Alt (fun L => F (L.map (fun R => comb c R n) ++ Z)) a :=
  ⟨fun p R S q hl' => by
      have := h.add (p.map fun R => comb c R n) (comb c R n) (comb c S n) (q.map (fun R => comb c R n) ++ Z) (by simp; lia)
      simpa [comb_radd] using this,
   fun p x R q hl' => by
      have := h.smul (p.map fun R => comb c R n) x (comb c R n) (q.map (fun R => comb c R n) ++ Z) (by simp; lia)
      simpa [comb_rsm] using this,
   fun p R S q hl' => by
      have := h.swap (p.map fun R => comb c R n) (comb c R n) (comb c S n) (q.map (fun R => comb c R n) ++ Z) (by simp; lia)
      simpa using this⟩
theorem Alt.scaleTop {F : List Rw → Int} {l : Nat} (A : Alt F l) (g h : Rw) (n : Nat) : ∀ (k : Nat) (p : List Rw), p.length + k + n = l →
    g n ^ k * F (p ++ blk h (k + n)) = F (p ++ (blk (comb g h (n + 1)) k ++ blk h n))
  | 0, p, _ => by simp [blk]
  | k + 1, p, hl => by
    have e0 : k + 1 + n = (k + n) + 1 := by lia
    rw [e0]
    simp only [blk, List.cons_append]
    have h1 := A.scaleTop g h n k (p ++ [shf k (comb g h (n + 1))]) (by simp; lia)
    simp only [List.append_assoc, List.cons_append, List.nil_append] at h1
    rw [← h1, Int.pow_succ, Int.mul_assoc, ← A.smul p (g n) _ _ (by simp [blk_len]; lia)]
    congr 1
    have e2 : shf k (comb g h (n + 1)) = radd (rsm (g n) (shf (k + n) h)) (shf k (comb g h n)) := by
      funext t
      simp only [shf, comb, radd, rsm]
      by_cases h1 : k ≤ t
      · by_cases h2 : n ≤ t - k
        · rw [if_pos h1, if_pos h2, if_pos (by lia), if_pos h1, Nat.sub_sub]; lia
        · rw [if_pos h1, if_neg h2, if_neg (by lia), if_pos h1]; simp
      · rw [if_neg h1, if_neg (by lia), if_neg h1]; simp
    rw [e2]
    have := A.span p [] (blk h (k + n)) (rsm (g n) (shf (k + n) h)) (spn_comb h g k (k + n) n (Nat.le_refl _)) (by simp [blk_len]; lia)
    simp only [List.nil_append] at this
    rw [this]

/-- the resultant at formal degrees -/
noncomputable def Rs (m n : Nat) (a b : Rw) : Int := DP 0 0 (m + n - 1) (blk a n ++ blk b m)
theorem Rs_eq (m n : Nat) (a b : Rw) : Rs m n a b = Sj 0 m n a b 0 := rfl
theorem Rs_swap {m n : Nat} (h : 0 < m + n) (a b : Rw) : Rs n m b a = sg (m * n) * Rs m n a b := by
  have A := DP_alt 0 0 (m + n - 1)
  have := A.block (blk b m) (blk a n) [] [] (by simp [blk_len]; lia)
  simp only [List.nil_append, List.append_nil, blk_len] at this
  unfold Rs
  rw [Nat.add_comm n m, this]
theorem Rs_mul {m n p : Nat} {f g h : Rw} (hn : 0 < n) (hp : 0 < p) (hg : ∀ t, n < t → g t = 0) (hh : ∀ t, p < t → h t = 0) (hf : ∀ t, m < t → f t = 0) (g0 : g n ≠ 0) :
    Rs (m + n) p (comb g f (n + 1)) h = Rs m p f h * Rs n p g h := by
  have A := DP_alt 0 0 (m + n + p - 1)
  have h1 := A.scaleTop g h n m (blk (comb g f (n + 1)) p) (by simp [blk_len]; lia)
  have h2 := (A.pull (a := m + p) (b := n) g (n + 1) (blk h n) (blk_len _ _) (by lia))
  obtain ⟨q, hq⟩ : ∃ q, m + p = q + 1 := ⟨m + p - 1, by lia⟩
  rw [hq] at h2
  have h3 := h2.unique q (blk f p ++ blk h m) (by simp [blk_len]; lia) fun R hR t ht => by
    rcases List.mem_append.mp hR with hR | hR
    · exact blk_low (q := m + 1) (fun t ht => hf t (by lia)) R hR t (by lia)
    · exact blk_low (q := p + 1) (fun t ht => hh t (by lia)) R hR t (by lia)
  simp only [List.map_append, blk_map, uns_map hg, List.append_assoc] at h3
  have h4 := DP_strike (j := 0) (κ := 0) (n := n) (v := n - 1) (s0 := p) (b := g) (R := blk h n) hg (by lia) (fun S hS t ht => blk_low (q := p + 1) (fun t ht => hh t (by lia)) S hS t (by lia)) m
  rw [show p + m + (n - 1) = m + n + p - 1 by lia, show p + m = q + 1 by lia] at h4
  rw [h4] at h3
  rw [h3] at h1
  have : g n ^ m * Rs (m + n) p (comb g f (n + 1)) h = g n ^ m * (Rs m p f h * Rs n p g h) := by
    unfold Rs
    rw [h1, show q = m + p - 1 by lia, show p + (n - 1) = n + p - 1 by lia]
    grind
  exact Int.eq_of_mul_eq_mul_left (Int.pow_ne_zero g0) this
theorem Rs_rows {p m d : Nat} {a r f : Rw} {c : Nat → Int} (h : 0 < p + m) (hd : m + d ≤ p + 1) (e : ∀ t, a t = comb c f d t + r t) : Rs p m a f = Rs p m r f := by
  have A := DP_alt 0 0 (p + m - 1)
  have := A.scale 1 (a := a) (r := r) (T := comb c f d) (fun t => by rw [e]; lia) (blk f p) m [] (fun i hi => spn_comb f c i p d (by lia)) (by simp [blk_len]; lia)
  simp only [Int.one_pow, Int.one_mul, List.nil_append] at this
  exact this
theorem Rs_homog1 {m n : Nat} (h : 0 < m + n) (x : Int) (a b : Rw) : Rs m n (rsm x a) b = x ^ n * Rs m n a b := by
  have A := DP_alt 0 0 (m + n - 1)
  have := A.homog x a n [] (blk b m) (by simp [blk_len]; lia)
  simpa [Rs] using this
theorem Rs_homog2 {m n : Nat} (h : 0 < m + n) (x : Int) (a b : Rw) : Rs m n a (rsm x b) = x ^ m * Rs m n a b := by
  have A := DP_alt 0 0 (m + n - 1)
  have := A.homog x b m (blk a n) [] (by simp [blk_len]; lia)
  simpa [Rs] using this
end
section
theorem Alt.perm {i j : List Nat} (h : i.Perm j) : ∃ s : Int, s * s = 1 ∧ ∀ (r : Nat → Rw) (F : List Rw → Int) (l : Nat) (p : List Rw), Alt F l → p.length + i.length = l → F (p ++ i.map r) = s * F (p ++ j.map r) := by
  induction h with
  | nil => exact ⟨1, rfl, fun _ _ _ _ _ _ => by simp⟩
  | @cons x a b _ ih =>
    obtain ⟨s, hs, h⟩ := ih
    refine ⟨s, hs, fun r F l p A hl => ?_⟩
    have := h r F l (p ++ [r x]) A (by simp at hl ⊢; lia)
    simpa using this
  | swap x y a =>
    refine ⟨-1, rfl, fun r F l p A hl => ?_⟩
    have := A.swap p (r y) (r x) (a.map r) (by simp at hl ⊢; lia)
    simpa using this
  | @trans a b c h1 _ ih1 ih2 =>
    obtain ⟨s, hs, e1⟩ := ih1
    obtain ⟨t, ht, e2⟩ := ih2
    refine ⟨s * t, by grind, fun r F l p A hl => ?_⟩
    rw [e1 r F l p A hl, e2 r F l p A (by rw [← h1.length_eq]; exact hl), Int.mul_assoc]
noncomputable def ev (R : Rw) : Rw := fun t => if t % 2 = 0 then R (t / 2) else 0
noncomputable def od (R : Rw) : Rw := shf 1 (ev R)
theorem ev_shf (i : Nat) (R : Rw) : ev (shf i R) = shf (2 * i) (ev R) := by
  funext t; unfold ev shf
  dsimp only
  by_cases h1 : t % 2 = 0
  · by_cases h2 : i ≤ t / 2
    · rw [if_pos h1, if_pos h2, if_pos (by lia), if_pos (by lia), show (t - 2 * i) / 2 = t / 2 - i by lia]
    · rw [if_pos h1, if_neg h2, if_neg (by lia)]
  · rw [if_neg h1]; split
    · rw [if_neg (by lia)]
    · rfl
theorem shf_shf (i j : Nat) (R : Rw) : shf i (shf j R) = shf (i + j) R := by
  funext t; unfold shf
  by_cases h1 : i ≤ t
  · by_cases h2 : j ≤ t - i
    · rw [if_pos h1, if_pos h2, if_pos (by lia), Nat.sub_sub]
    · rw [if_pos h1, if_neg h2, if_neg (by lia)]
  · rw [if_neg h1, if_neg (by lia)]
theorem od_shf (i : Nat) (R : Rw) : od (shf i R) = shf (2 * i + 1) (ev R) := by
  unfold od; rw [ev_shf, shf_shf, Nat.add_comm]
theorem ev_low {R : Rw} {q : Nat} (h : ∀ t, q < t → R t = 0) : ∀ t, 2 * q < t → ev R t = 0 := fun t ht => by
  unfold ev; split
  · exact h _ (by omega)
  · rfl
structure Lin (M : Rw → Rw) : Prop where
  add : ∀ R S, M (radd R S) = radd (M R) (M S)
  smul : ∀ c R, M (rsm c R) = rsm c (M R)
theorem lin_shf (i : Nat) : Lin (shf i) := ⟨fun R S => by funext t; unfold shf radd; split <;> simp [*], fun c R => by funext t; unfold shf rsm; split <;> simp [*]⟩
theorem lin_ev : Lin ev := ⟨fun R S => by funext t; unfold ev radd; split <;> simp [*], fun c R => by funext t; unfold ev rsm; split <;> simp [*]⟩
theorem lin_od : Lin od := ⟨fun R S => by unfold od; rw [lin_ev.add, (lin_shf 1).add], fun c R => by unfold od; rw [lin_ev.smul, (lin_shf 1).smul]⟩
theorem Alt.pullM {F : List Rw → Int} {l a : Nat} (h : Alt F l) {M : Rw → Rw} (hM : Lin M) (Y Z : List Rw) (hl : l = Y.length + a + Z.length) : Alt (fun L => F (Y ++ (L.map M ++ Z))) a :=
  ⟨fun p R S q hl' => by
      have := h.add (Y ++ p.map M) (M R) (M S) (q.map M ++ Z) (by simp; lia)
      simpa [hM.add] using this,
   fun p x R q hl' => by
      have := h.smul (Y ++ p.map M) x (M R) (q.map M ++ Z) (by simp; lia)
      simpa [hM.smul] using this,
   fun p R S q hl' => by
      have := h.swap (Y ++ p.map M) (M R) (M S) (q.map M ++ Z) (by simp; lia)
      simpa using this⟩
theorem DP_uns : ∀ q, DP 0 0 q (uns (q + 1)) = 1
  | 0 => rfl
  | q + 1 => by
    rw [uns, DP_peel, DP_uns q]
    · simp [un]
    · intro S hS; exact uns_low S hS _ (by lia)
theorem shf_un (i j : Nat) : shf i (un j) = un (j + i) := by
  funext t; unfold shf un
  by_cases h : i ≤ t
  · rw [if_pos h]
    by_cases h2 : t - i = j
    · rw [if_pos h2, if_pos (by lia)]
    · rw [if_neg h2, if_neg (by lia)]
  · rw [if_neg h, if_neg (by lia)]
theorem blk_un : ∀ m, blk (un 0) m = uns m
  | 0 => rfl
  | m + 1 => by rw [blk, blk_un m, shf_un, Nat.zero_add]; rfl
theorem blk_un_app (m : Nat) : ∀ k, blk (un m) k ++ uns m = uns (m + k)
  | 0 => rfl
  | k + 1 => by
    show shf k (un m) :: (blk (un m) k ++ uns m) = un (m + k) :: uns (m + k)
    rw [blk_un_app m k, shf_un]
theorem Rs_un {m k : Nat} (h : 0 < m + k) : Rs m k (un m) (un 0) = 1 := by
  unfold Rs
  rw [blk_un, blk_un_app]
  obtain ⟨q, e⟩ : ∃ q, m + k = q + 1 := ⟨m + k - 1, by lia⟩
  rw [e]; exact DP_uns q
theorem ev_un (m : Nat) : ev (un m) = un (2 * m) := by
  funext t; unfold ev un
  by_cases h : t = 2 * m
  · rw [if_pos h, if_pos (by lia), if_pos (by lia)]
  · rw [if_neg h]; split
    · rw [if_neg (by lia)]
    · rfl
theorem evod {q : Nat} (L1 L2 : List Rw) (h1 : L1.length = q + 1) (h2 : L2.length = q + 1) (s1 : ∀ R ∈ L1, ∀ t, q + 1 ≤ t → R t = 0) (s2 : ∀ R ∈ L2, ∀ t, q + 1 ≤ t → R t = 0) {F : List Rw → Int} {l : Nat} (A : Alt F l) (hl : l = 2 * (q + 1)) :
    F (L1.map ev ++ L2.map od) = DP 0 0 q L1 * DP 0 0 q L2 * F ((uns (q + 1)).map ev ++ (uns (q + 1)).map od) := by
  have e1 := (A.pullM (a := q + 1) lin_ev [] (L2.map od) (by simp; lia)).unique q L1 h1 s1
  have e2 := (A.pullM (a := q + 1) lin_od ((uns (q + 1)).map ev) [] (by simp [uns_len]; lia)).unique q L2 h2 s2
  simp only [List.nil_append, List.append_nil] at e1 e2
  rw [e1, e2]; grind
/-- the even rows, then the odd ones -/
noncomputable def unzipped (m k : Nat) : Prop := ∃ s : Int, ∀ (a b : Rw) (F : List Rw → Int), Alt F (2 * (m + k)) → F (blk (ev a) (2 * k) ++ blk (ev b) (2 * m)) = s * F ((blk a k ++ blk b m).map ev ++ (blk a k ++ blk b m).map od)
theorem Rs_ev {m k : Nat} (h : 0 < m + k) (U : unzipped m k) {a b : Rw} (ha : ∀ t, m < t → a t = 0) (hb : ∀ t, k < t → b t = 0) : Rs (2 * m) (2 * k) (ev a) (ev b) = Rs m k a b * Rs m k a b := by
  obtain ⟨s, U⟩ := U
  obtain ⟨q, hq⟩ : ∃ q, m + k = q + 1 := ⟨m + k - 1, by lia⟩
  have A := DP_alt 0 0 (2 * m + 2 * k - 1)
  rw [show 2 * m + 2 * k - 1 + 1 = 2 * (m + k) by lia] at A
  have key : ∀ (a b : Rw), (∀ t, m < t → a t = 0) → (∀ t, k < t → b t = 0) → Rs (2 * m) (2 * k) (ev a) (ev b) = (s * DP 0 0 (2 * m + 2 * k - 1) ((uns (q + 1)).map ev ++ (uns (q + 1)).map od)) * (Rs m k a b * Rs m k a b) := fun a b ha hb => by
    have low : ∀ R ∈ blk a k ++ blk b m, ∀ t, q + 1 ≤ t → R t = 0 := fun R hR t ht => by
      rcases List.mem_append.mp hR with hR | hR
      · exact blk_low (q := m + 1) (fun t ht => ha t (by lia)) R hR t (by lia)
      · exact blk_low (q := k + 1) (fun t ht => hb t (by lia)) R hR t (by lia)
    have e := evod (q := q) (blk a k ++ blk b m) (blk a k ++ blk b m) (by simp [blk_len]; lia) (by simp [blk_len]; lia) low low A (by lia)
    have u := U a b _ A
    rw [e] at u
    unfold Rs
    rw [u, show m + k - 1 = q by lia]; grind
  have one := key (un m) (un 0) (fun t ht => by unfold un; rw [if_neg (by lia)]) (fun t ht => by unfold un; rw [if_neg (by lia)])
  rw [ev_un, ev_un, Rs_un (by lia), Rs_un h, Int.mul_one, Int.mul_one] at one
  rw [key a b ha hb, ← one, Int.one_mul]
theorem unz (m k : Nat) (j1 j2 : List Nat) (hp : j1.Perm j2) (h : ∀ a b : Rw, ∃ r : Nat → Rw, blk (ev a) (2 * k) ++ blk (ev b) (2 * m) = j1.map r ∧ (blk a k ++ blk b m).map ev ++ (blk a k ++ blk b m).map od = j2.map r) : unzipped m k := by
  obtain ⟨s, hs, hp'⟩ := Alt.perm hp
  refine ⟨s, fun a b F A => ?_⟩
  obtain ⟨r, e1, e2⟩ := h a b
  have := hp' r F _ [] A (by
    have := congrArg List.length e1
    simp [blk_len] at this ⊢; lia)
  simp only [List.nil_append] at this
  rw [e1, e2, this]
theorem unz1 : unzipped 1 0 := unz 1 0 [1, 0] [0, 1] (by decide) fun a b => ⟨fun i => if i = 0 then ev b else shf 1 (ev b), by
  simp [blk]; funext t; simp [shf], by simp [blk, ev_shf, od_shf]; funext t; simp [shf]⟩
theorem unz2 : unzipped 2 1 := unz 2 1 [1, 0, 5, 4, 3, 2] [0, 4, 2, 1, 5, 3] (by decide) fun a b => ⟨fun i => [shf 0 (ev a), shf 1 (ev a), shf 0 (ev b), shf 1 (ev b), shf 2 (ev b), shf 3 (ev b)].getD i rz, by
  simp [blk], by simp [blk, ev_shf, od_shf]⟩
theorem unz3 : unzipped 3 2 := unz 3 2 [3, 2, 1, 0, 9, 8, 7, 6, 5, 4] [2, 0, 8, 6, 4, 3, 1, 9, 7, 5] (by decide) fun a b => ⟨fun i => [shf 0 (ev a), shf 1 (ev a), shf 2 (ev a), shf 3 (ev a), shf 0 (ev b), shf 1 (ev b), shf 2 (ev b), shf 3 (ev b), shf 4 (ev b), shf 5 (ev b)].getD i rz, by
  simp [blk], by simp [blk, ev_shf, od_shf]⟩
end
section
noncomputable def dz (a : Rw) : Rw := fun t => ((t : Int) + 1) * a (t + 1)
theorem comb_comm2 (f g u : Rw) (n : Nat) : ∀ k, comb g (comb f u k) n = comb f (comb g u n) k
  | 0 => by
    have : comb f u 0 = rz := rfl
    rw [this]
    funext t
    have : ∀ n, comb g rz n t = 0 := fun n => by
      induction n with
      | zero => rfl
      | succ n ih => simp only [comb, ih, shf_rz]; simp [rz]
    rw [this]; rfl
  | k + 1 => by
    have e1 : comb f u (k + 1) = radd (comb f u k) (rsm (f k) (shf k u)) := rfl
    have e2 : comb f (comb g u n) (k + 1) = radd (comb f (comb g u n) k) (rsm (f k) (shf k (comb g u n))) := rfl
    rw [e1, e2, comb_radd, comb_rsm, comb_shf, comb_comm2 f g u n k]
theorem comb_u0 {f : Rw} {m : Nat} (hf : ∀ t, m < t → f t = 0) : comb f (un 0) (m + 1) = f := by
  funext t; rw [comb_un]
  by_cases h : t < m + 1
  · rw [if_pos ⟨Nat.zero_le _, by lia⟩]; rfl
  · rw [if_neg (by lia), hf _ (by lia)]
theorem comb_comm {f g : Rw} {m n : Nat} (hf : ∀ t, m < t → f t = 0) (hg : ∀ t, n < t → g t = 0) : comb g f (n + 1) = comb f g (m + 1) := by
  have := comb_comm2 f g (un 0) (n + 1) (m + 1)
  rwa [comb_u0 hf, comb_u0 hg] at this
theorem comb_more {f g : Rw} {m : Nat} (hf : ∀ t, m ≤ t → f t = 0) : comb f g (m + 1) = comb f g m := by
  funext t; simp only [comb]; rw [hf m (Nat.le_refl _)]; simp
theorem dz_low {f : Rw} {m : Nat} (hf : ∀ t, m < t → f t = 0) : ∀ t, m - 1 < t → dz f t = 0 := fun t ht => by
  unfold dz; rw [hf _ (by omega)]; simp
theorem dz_shf (n : Nat) (f : Rw) : dz (shf (n + 1) f) = radd (rsm ((n : Int) + 1) (shf n f)) (shf (n + 1) (dz f)) := by
  funext t; unfold dz shf radd rsm
  dsimp only
  by_cases h : n ≤ t
  · rw [if_pos (by lia), if_pos h, show t + 1 - (n + 1) = t - n by lia]
    by_cases h2 : n + 1 ≤ t
    · rw [if_pos h2, show t - (n + 1) + 1 = t - n by lia, show ((t - (n + 1) : Nat) : Int) = t - n - 1 by lia]; grind
    · rw [if_neg h2]
      have : t = n := by lia
      subst this; grind
  · rw [if_neg (by lia), if_neg h, if_neg (by lia)]; simp
theorem dz_comb (g f : Rw) : ∀ n, dz (comb g f (n + 1)) = radd (comb (dz g) f n) (comb g (dz f) (n + 1))
  | 0 => by
    funext t; simp only [dz, comb, shf, radd, Nat.zero_le, if_true, Nat.sub_zero]; grind
  | n + 1 => by
    have e1 : dz (comb g f (n + 1 + 1)) = radd (dz (comb g f (n + 1))) (rsm (g (n + 1)) (dz (shf (n + 1) f))) := by
      funext t
      show ((t : Int) + 1) * (comb g f (n + 1) (t + 1) + g (n + 1) * shf (n + 1) f (t + 1)) = ((t : Int) + 1) * comb g f (n + 1) (t + 1) + g (n + 1) * (((t : Int) + 1) * shf (n + 1) f (t + 1))
      grind
    rw [e1, dz_comb g f n, dz_shf]
    funext t
    show comb (dz g) f n t + comb g (dz f) (n + 1) t + g (n + 1) * (((n : Int) + 1) * shf n f t + shf (n + 1) (dz f) t) = (comb (dz g) f n t + (((n : Int) + 1) * g (n + 1)) * shf n f t) + (comb g (dz f) (n + 1) t + g (n + 1) * shf (n + 1) (dz f) t)
    grind
theorem sg_even (m : Nat) : sg (m * (m + 1)) = 1 := by
  unfold sg
  have : m * (m + 1) % 2 = 0 := by
    rcases Nat.mod_two_eq_zero_or_one m with h | h <;> simp [Nat.mul_mod, Nat.add_mod, h]
  rw [if_pos this]
/-- the resultant of a product and its derivative -/
theorem Rs_prod {m n : Nat} {f g : Rw} (hm : 0 < m) (hn : 0 < n) (hf : ∀ t, m < t → f t = 0) (hg : ∀ t, n < t → g t = 0) (f0 : f m ≠ 0) (g0 : g n ≠ 0) :
    Rs (m + n) (m + n - 1) (comb g f (n + 1)) (dz (comb g f (n + 1))) = sg (m * n) * (Rs m (m - 1) f (dz f) * Rs n (n - 1) g (dz g) * (Rs m n f g * Rs m n f g)) := by
  obtain ⟨m, rfl⟩ : ∃ k, m = k + 1 := ⟨m - 1, by lia⟩
  obtain ⟨n, rfl⟩ : ∃ k, n = k + 1 := ⟨n - 1, by lia⟩
  have hF := comb_comm hf hg
  have hdf := dz_low hf
  have hdg := dz_low hg
  simp only [Nat.add_sub_cancel] at hdf hdg ⊢
  have e1 := dz_comb g f (n + 1)
  have e2 : dz (comb g f (n + 1 + 1)) = radd (comb (dz f) g (m + 1)) (comb f (dz g) (m + 1 + 1)) := by rw [hF, dz_comb]
  generalize hD : dz (comb g f (n + 1 + 1)) = F' at e1 e2 ⊢
  have hlow : ∀ t, m + 1 + n < t → F' t = 0 := fun t ht => by
    rw [e1]
    show comb (dz g) f (n + 1) t + comb g (dz f) (n + 1 + 1) t = 0
    rw [comb_low (dz g) (q := m + 2) (fun t ht => hf t (by lia)) (n + 1) t (by lia), comb_low g (q := m + 1) (fun t ht => hdf t (by lia)) (n + 1 + 1) t (by lia)]; rfl
  have k1 := Rs_mul (m := m + 1) (n := n + 1) (p := m + 1 + n) (f := f) (g := g) (h := F') (by lia) (by lia) hg hlow hf g0
  have k2 : Rs (m + 1 + n) (m + 1) F' f = Rs (m + 1 + n) (m + 1) (comb g (dz f) (n + 1 + 1)) f := Rs_rows (c := dz g) (d := n + 1) (by lia) (by lia) (fun t => by rw [e1]; rfl)
  have k3 := Rs_mul (m := m) (n := n + 1) (p := m + 1) (f := dz f) (g := g) (h := f) (by lia) (by lia) hg hf hdf g0
  have k4 : Rs (m + 1 + n) (n + 1) F' g = Rs (m + 1 + n) (n + 1) (comb f (dz g) (m + 1 + 1)) g := Rs_rows (c := dz f) (d := m + 1) (by lia) (by lia) (fun t => by rw [e2]; rfl)
  have k5 := Rs_mul (m := n) (n := m + 1) (p := n + 1) (f := dz g) (g := f) (h := g) (by lia) (by lia) hf hg hdg f0
  have s1 := Rs_swap (m := m + 1 + n) (n := m + 1) (by lia) F' f
  have s2 := Rs_swap (m := m + 1 + n) (n := n + 1) (by lia) F' g
  have s3 := Rs_swap (m := m) (n := m + 1) (by lia) (dz f) f
  have s4 := Rs_swap (m := n) (n := n + 1) (by lia) (dz g) g
  have s5 := Rs_swap (m := m + 1) (n := n + 1) (by lia) f g
  rw [sg_even, Int.one_mul] at s3 s4
  rw [show m + (n + 1) = m + 1 + n by lia] at k3
  rw [show n + (m + 1) = m + 1 + n by lia] at k5
  rw [show m + 1 + (n + 1) - 1 = m + 1 + n by lia, k1, s1, s2, k2, k4, k3, k5, s3, s4, s5]
  have z : sg ((m + 1 + n) * (m + 1)) * sg ((m + 1 + n) * (n + 1)) = 1 := by
    rw [← sg_add, ← Nat.mul_add, show m + 1 + (n + 1) = m + 1 + n + 1 by lia, sg_even]
  grind
end
section
variable {a b : Rw}
noncomputable def R32 (a0 a1 a2 a3 b0 b1 b2 : Int) : Int := a3 * (a3 * (b0 * (b0 * b0)) - (b1 * (a2 * (b0 * b0) - (b1 * (a1 * b0 - b1 * a0) - b2 * -(b0 * a0))) - b2 * -(b0 * (a1 * b0 - b1 * a0)))) +
      b2 * (a2 * (a2 * (b0 * b0) - (b1 * (a1 * b0 - b1 * a0) - b2 * -(b0 * a0))) - (a3 * (a1 * (b0 * b0) - b1 * (a0 * b0)) - b2 * (a1 * (a1 * b0 - b1 * a0) - (a2 * (a0 * b0) - b2 * (a0 * a0)))))
theorem ex32 (ha : ∀ t, 3 < t → a t = 0) (hb : ∀ t, 2 < t → b t = 0) : Rs 3 2 a b = R32 (a 0) (a 1) (a 2) (a 3) (b 0) (b 1) (b 2) := by
  have := ha 4 (by lia)
  have := ha 5 (by lia)
  have := hb 3 (by lia)
  have := hb 4 (by lia)
  have := hb 5 (by lia)
  simp [Rs, DP, lap, blk, shf, R32, *]
theorem R32_mv (a0 a1 a2 a3 b0 b1 b2 c : Int) : R32 (a0 + c * a1 + c * c * a2 + c * c * c * a3) (a1 + 2 * c * a2 + 3 * c * c * a3) (a2 + 3 * c * a3) a3 (b0 + c * b1 + c * c * b2) (b1 + 2 * c * b2) b2 = R32 a0 a1 a2 a3 b0 b1 b2 := by
  unfold R32; grind
end
section
/-! the law, for rows of numbers -/
theorem dsgn (m : Nat) : sg (m * (m - 1) / 2) = if m * (m - 1) / 2 % 2 = 1 then -1 else 1 := by
  unfold sg
  rcases Nat.mod_two_eq_zero_or_one (m * (m - 1) / 2) with h | h <;> simp [h]
/-- the discriminant at a formal degree -/
noncomputable def Dc (m : Nat) (f : Rw) : Int := sg (m * (m - 1) / 2) * (Rs m (m - 1) f (dz f)).fdiv (f m)
variable {a b f g : Rw}
theorem ex10 : Rs 1 0 a b = b 0 := by simp [Rs, DP, blk, shf]
theorem ex21 (ha : ∀ t, 2 < t → a t = 0) (hb : ∀ t, 1 < t → b t = 0) : Rs 2 1 a b = a 2 * b 0 * b 0 - a 1 * b 0 * b 1 + a 0 * b 1 * b 1 := by
  have := ha 3 (by omega)
  have := hb 2 (by omega)
  have := hb 3 (by omega)
  simp [Rs, DP, lap, blk, shf, *]; grind
theorem ex11 : Rs 1 1 a b = a 1 * b 0 - a 0 * b 1 := by
  simp [Rs, DP, lap, blk, shf]; grind
theorem ex12 (ha : ∀ t, 1 < t → a t = 0) (hb : ∀ t, 2 < t → b t = 0) : Rs 1 2 a b = b 2 * a 0 * a 0 - b 1 * a 0 * a 1 + b 0 * a 1 * a 1 := by
  rw [Rs_swap (by lia), ex21 hb ha]; simp [sg]
theorem ex22 (ha : ∀ t, 2 < t → a t = 0) (hb : ∀ t, 2 < t → b t = 0) : Rs 2 2 a b = (a 2 * b 0 - a 0 * b 2) * (a 2 * b 0 - a 0 * b 2) - (a 2 * b 1 - a 1 * b 2) * (a 1 * b 0 - a 0 * b 1) := by
  have := ha 3 (by lia)
  have := ha 4 (by lia)
  have := hb 3 (by lia)
  have := hb 4 (by lia)
  simp [Rs, DP, lap, blk, shf, *]; grind
theorem ex31 (ha : ∀ t, 3 < t → a t = 0) (hb : ∀ t, 1 < t → b t = 0) : Rs 3 1 a b = a 3 * b 0 * b 0 * b 0 - a 2 * b 0 * b 0 * b 1 + a 1 * b 0 * b 1 * b 1 - a 0 * b 1 * b 1 * b 1 := by
  have := ha 4 (by lia)
  have := hb 2 (by lia)
  have := hb 3 (by lia)
  have := hb 4 (by lia)
  simp [Rs, DP, lap, blk, shf, *]; grind
noncomputable def d2 (f : Rw) : Int := f 1 * f 1 - 4 * f 0 * f 2
noncomputable def d3 (f : Rw) : Int := f 2 * f 2 * f 1 * f 1 - 4 * f 3 * f 1 * f 1 * f 1 - 4 * f 2 * f 2 * f 2 * f 0 - 27 * f 3 * f 3 * f 0 * f 0 + 18 * f 3 * f 2 * f 1 * f 0
theorem rd1 : Rs 1 0 f (dz f) = f 1 * 1 := by rw [ex10]; simp [dz]
theorem rd2 (hf : ∀ t, 2 < t → f t = 0) : Rs 2 1 f (dz f) = f 2 * - d2 f := by
  rw [ex21 hf (dz_low hf)]; simp only [dz, d2]; grind
theorem rd3 (hf : ∀ t, 3 < t → f t = 0) : Rs 3 2 f (dz f) = f 3 * - d3 f := by
  rw [ex32 hf (dz_low hf)]; simp only [dz, d3, R32]; grind
theorem fdiv_mul {x y : Int} (h : x ≠ 0) : (x * y).fdiv x = y := Int.mul_fdiv_cancel_left _ h
theorem Dc1 (h : f 1 ≠ 0) : Dc 1 f = 1 := by unfold Dc; rw [rd1, fdiv_mul h]; rfl
theorem Dc2 (hf : ∀ t, 2 < t → f t = 0) (h : f 2 ≠ 0) : Dc 2 f = d2 f := by unfold Dc; rw [rd2 hf, fdiv_mul h]; simp [sg]
theorem Dc3 (hf : ∀ t, 3 < t → f t = 0) (h : f 3 ≠ 0) : Dc 3 f = d3 f := by unfold Dc; rw [rd3 hf, fdiv_mul h]; simp [sg]
/-- for a degree of one to three: the lead divides the resultant -/
theorem Rs_Dc {m : Nat} (h1 : 1 ≤ m) (h3 : m ≤ 3) (hf : ∀ t, m < t → f t = 0) (h : f m ≠ 0) : Rs m (m - 1) f (dz f) = f m * (sg (m * (m - 1) / 2) * Dc m f) := by
  rcases (show m = 1 ∨ m = 2 ∨ m = 3 by lia) with rfl | rfl | rfl
  · rw [Dc1 h, rd1]; rfl
  · rw [Dc2 hf h, rd2 hf]; simp [sg]
  · rw [Dc3 hf h, rd3 hf]; simp [sg]
/-- 1: of a product -/
theorem law1 {m n : Nat} (m1 : 1 ≤ m) (m3 : m ≤ 3) (n1 : 1 ≤ n) (n2 : n ≤ 2) (hf : ∀ t, m < t → f t = 0) (hg : ∀ t, n < t → g t = 0) (f0 : f m ≠ 0) (g0 : g n ≠ 0) (hl : comb g f (n + 1) (m + n) = f m * g n) :
    Dc (m + n) (comb g f (n + 1)) = Dc m f * Dc n g * (Rs m n f g * Rs m n f g) := by
  have e := Rs_prod (by lia) (by lia) hf hg f0 g0
  rw [Rs_Dc m1 m3 hf f0, Rs_Dc n1 (by lia) hg g0] at e
  have hz : f m * g n ≠ 0 := Int.mul_ne_zero f0 g0
  unfold Dc
  rw [e, hl, show sg (m * n) * (f m * (sg (m * (m - 1) / 2) * Dc m f) * (g n * (sg (n * (n - 1) / 2) * Dc n g)) * (Rs m n f g * Rs m n f g)) = (f m * g n) * (sg (m * n) * sg (m * (m - 1) / 2) * sg (n * (n - 1) / 2) * (Dc m f * Dc n g * (Rs m n f g * Rs m n f g))) by grind, fdiv_mul hz]
  have s : sg ((m + n) * (m + n - 1) / 2) * (sg (m * n) * sg (m * (m - 1) / 2) * sg (n * (n - 1) / 2)) = 1 := by
    rcases (show m = 1 ∨ m = 2 ∨ m = 3 by lia) with rfl | rfl | rfl <;> rcases (show n = 1 ∨ n = 2 by lia) with rfl | rfl <;> decide
  unfold Dc at *
  grind
end
section
/-! the law's other equations, for lists -/
noncomputable def Dl (f : List Int) : Int := Dc (f.length - 1) (cut f)
noncomputable def Rl (a b : List Int) : Int := Rs (a.length - 1) (b.length - 1) (cut a) (cut b)
noncomputable def mvStep (c : Int) (found : List Int) (number : Int) : List Int :=
  match List.zipWith (fun one other => c * one + other) (found ++ [0]) (0 :: found) with
  | [] => []
  | x :: r => (x + number) :: r
noncomputable def mv (c : Int) (a : List Int) : List Int := (a.reverse.foldl (mvStep c) [0]).take a.length
noncomputable def stretch (k : Int) (f : List Int) : List Int := f.zipIdx.map fun p => p.1 * k ^ p.2
noncomputable def spread (f : List Int) : List Int := (f.foldl (fun s one => s ++ [one, 0]) []).dropLast
section
variable {a0 a1 a2 a3 b0 b1 b2 : Int}
theorem lc (l : List Int) {n : Nat} (h : l.length = n + 1 := by rfl) : ∀ t, n < t → cut l t = 0 := fun t ht => cut_high (by lia)
theorem Dl1 (h : a1 ≠ 0) : Dl [a0, a1] = 1 := Dc1 (f := cut [a0, a1]) h
theorem Dl2 (h : a2 ≠ 0) : Dl [a0, a1, a2] = a1 * a1 - 4 * a0 * a2 := Dc2 (f := cut [a0, a1, a2]) (lc _) h
theorem Dl3 (h : a3 ≠ 0) : Dl [a0, a1, a2, a3] = a2 * a2 * a1 * a1 - 4 * a3 * a1 * a1 * a1 - 4 * a2 * a2 * a2 * a0 - 27 * a3 * a3 * a0 * a0 + 18 * a3 * a2 * a1 * a0 := Dc3 (f := cut [a0, a1, a2, a3]) (lc _) h
theorem Rl11 : Rl [a0, a1] [b0, b1] = a1 * b0 - a0 * b1 := ex11
theorem Rl21 : Rl [a0, a1, a2] [b0, b1] = a2 * b0 * b0 - a1 * b0 * b1 + a0 * b1 * b1 := ex21 (a := cut [a0, a1, a2]) (b := cut [b0, b1]) (lc _) (lc _)
theorem Rl12 : Rl [a0, a1] [b0, b1, b2] = b2 * a0 * a0 - b1 * a0 * a1 + b0 * a1 * a1 := ex12 (a := cut [a0, a1]) (b := cut [b0, b1, b2]) (lc _) (lc _)
theorem Rl22 : Rl [a0, a1, a2] [b0, b1, b2] = (a2 * b0 - a0 * b2) * (a2 * b0 - a0 * b2) - (a2 * b1 - a1 * b2) * (a1 * b0 - a0 * b1) := ex22 (a := cut [a0, a1, a2]) (b := cut [b0, b1, b2]) (lc _) (lc _)
theorem Rl31 : Rl [a0, a1, a2, a3] [b0, b1] = a3 * b0 * b0 * b0 - a2 * b0 * b0 * b1 + a1 * b0 * b1 * b1 - a0 * b1 * b1 * b1 := ex31 (a := cut [a0, a1, a2, a3]) (b := cut [b0, b1]) (lc _) (lc _)
theorem Rl32 : Rl [a0, a1, a2, a3] [b0, b1, b2] = R32 a0 a1 a2 a3 b0 b1 b2 := ex32 (a := cut [a0, a1, a2, a3]) (b := cut [b0, b1, b2]) (lc _) (lc _)
end
theorem mv2 (c x y : Int) : mv c [x, y] = [x + c * y, y] := by simp [mv, mvStep]; grind
theorem mv3 (c x y z : Int) : mv c [x, y, z] = [x + c * y + c * c * z, y + 2 * c * z, z] := by simp [mv, mvStep]; grind
theorem mv4 (c x y z u : Int) : mv c [x, y, z, u] = [x + c * y + c * c * z + c * c * c * u, y + 2 * c * z + 3 * c * c * u, z + 3 * c * u, u] := by simp [mv, mvStep]; grind
/-- what f and g may be -/
structure Fs (most : Nat) (f : List Int) : Prop where
  lo : 2 ≤ f.length
  hi : f.length ≤ most + 1
  ld : lead f ≠ 0
theorem Fs.cases {f : List Int} (h : Fs 3 f) : (∃ x y, y ≠ 0 ∧ f = [x, y]) ∨ (∃ x y z, z ≠ 0 ∧ f = [x, y, z]) ∨ (∃ x y z u, u ≠ 0 ∧ f = [x, y, z, u]) := by
  have h1 := h.lo
  have h2 := h.hi
  have h3 := h.ld
  match f, h1, h2, h3 with
  | [x, y], _, _, h3 => exact .inl ⟨x, y, h3, rfl⟩
  | [x, y, z], _, _, h3 => exact .inr (.inl ⟨x, y, z, h3, rfl⟩)
  | [x, y, z, u], _, _, h3 => exact .inr (.inr ⟨x, y, z, u, h3, rfl⟩)
theorem Fs.cases2 {f : List Int} (h : Fs 2 f) : (∃ x y, y ≠ 0 ∧ f = [x, y]) ∨ (∃ x y z, z ≠ 0 ∧ f = [x, y, z]) := by
  have h1 := h.lo
  have h2 := h.hi
  have h3 := h.ld
  match f, h1, h2, h3 with
  | [x, y], _, _, h3 => exact .inl ⟨x, y, h3, rfl⟩
  | [x, y, z], _, _, h3 => exact .inr ⟨x, y, z, h3, rfl⟩
theorem law2 {f : List Int} (hF : Fs 3 f) (c : Int) : Dl (mv c f) = Dl f := by
  rcases hF.cases with ⟨x, y, h, rfl⟩ | ⟨x, y, z, h, rfl⟩ | ⟨x, y, z, u, h, rfl⟩
  · rw [mv2, Dl1 h, Dl1 h]
  · rw [mv3, Dl2 h, Dl2 h]; grind
  · rw [mv4, Dl3 h, Dl3 h]; grind
theorem law2r {f g : List Int} (hf : Fs 3 f) (hg : Fs 2 g) (c : Int) : Rl (mv c f) (mv c g) = Rl f g := by
  rcases hf.cases with ⟨x, y, h, rfl⟩ | ⟨x, y, z, h, rfl⟩ | ⟨x, y, z, u, h, rfl⟩ <;> rcases hg.cases2 with ⟨x', y', h', rfl⟩ | ⟨x', y', z', h', rfl⟩
  · rw [mv2, mv2, Rl11, Rl11]; grind
  · rw [mv2, mv3, Rl12, Rl12]; grind
  · rw [mv3, mv2, Rl21, Rl21]; grind
  · rw [mv3, mv3, Rl22, Rl22]; grind
  · rw [mv4, mv2, Rl31, Rl31]; grind
  · rw [mv4, mv3, Rl32, Rl32, R32_mv]
theorem law3 {f : List Int} (hF : Fs 3 f) {k : Int} (hk : k ≠ 0) : Dl (f.map fun x => k * x) = k ^ (2 * (f.length - 1) - 2) * Dl f := by
  rcases hF.cases with ⟨x, y, h, rfl⟩ | ⟨x, y, z, h, rfl⟩ | ⟨x, y, z, u, h, rfl⟩
  · simp only [List.map]; rw [Dl1 h, Dl1 (Int.mul_ne_zero hk h)]; simp
  · simp only [List.map]; rw [Dl2 h, Dl2 (Int.mul_ne_zero hk h)]; simp; grind
  · simp only [List.map]; rw [Dl3 h, Dl3 (Int.mul_ne_zero hk h)]; simp; grind
theorem law4 {f : List Int} (hF : Fs 3 f) {k : Int} (hk : k ≠ 0) : Dl (stretch k f) = k ^ ((f.length - 1) * (f.length - 1 - 1)) * Dl f := by
  rcases hF.cases with ⟨x, y, h, rfl⟩ | ⟨x, y, z, h, rfl⟩ | ⟨x, y, z, u, h, rfl⟩
  · simp only [stretch, List.zipIdx, List.map]; rw [Dl1 h, Dl1 (Int.mul_ne_zero h (Int.pow_ne_zero hk))]; simp
  · simp only [stretch, List.zipIdx, List.map]; rw [Dl2 h, Dl2 (Int.mul_ne_zero h (Int.pow_ne_zero hk))]; simp; grind
  · simp only [stretch, List.zipIdx, List.map]; rw [Dl3 h, Dl3 (Int.mul_ne_zero h (Int.pow_ne_zero hk))]; simp; grind
theorem law5 {f : List Int} (hF : Fs 3 f) (h0 : cut f 0 ≠ 0) : Dl f.reverse = Dl f := by
  rcases hF.cases with ⟨x, y, h, rfl⟩ | ⟨x, y, z, h, rfl⟩ | ⟨x, y, z, u, h, rfl⟩
  · simp only [List.reverse, List.reverseAux]; rw [Dl1 h, Dl1 (a1 := x) h0]
  · simp only [List.reverse, List.reverseAux]; rw [Dl2 h, Dl2 (a2 := x) h0]; grind
  · simp only [List.reverse, List.reverseAux]; rw [Dl3 h, Dl3 (a3 := x) h0]; grind
end
section
variable {f g : Rw}
theorem dz_ev (f : Rw) : dz (ev f) = rsm 2 (shf 1 (ev (dz f))) := by
  funext t; unfold dz ev rsm shf
  dsimp only
  by_cases h : (t + 1) % 2 = 0
  · rw [if_pos h, if_pos (by omega), if_pos (by omega)]
    rw [show (t - 1) / 2 + 1 = (t + 1) / 2 by omega]
    have : (t : Int) + 1 = 2 * (((t - 1) / 2 : Nat) + 1) := by omega
    rw [this]; grind
  · rw [if_neg h]
    by_cases h2 : 1 ≤ t
    · rw [if_pos h2, if_neg (by omega)]; simp
    · rw [if_neg h2]; simp
theorem Rs_x {p : Nat} (hp : 0 < p) {F : Rw} (hF : ∀ t, p < t → F t = 0) : Rs 1 p (un 1) F = F 0 := by
  have e1 := Rs_rows (p := p) (m := 1) (d := p) (a := F) (r := rsm (F 0) (un 0)) (f := un 1) (c := fun i => F (i + 1)) (by lia) (by lia) (fun t => by
    rw [comb_un]; unfold rsm un
    by_cases h0 : t = 0
    · subst h0; rw [if_neg (by lia), if_pos rfl]; lia
    · rw [if_neg h0]
      by_cases h1 : t ≤ p
      · rw [if_pos ⟨by lia, by lia⟩, show t - 1 + 1 = t by lia]; lia
      · rw [if_neg (by lia), hF t (by lia)]; lia)
  rw [Rs_homog1 (by lia), Rs_swap (m := 1) (n := p) (by lia) (un 1) (un 0), Rs_un (by lia), Rs_swap (m := 1) (n := p) (by lia) (un 1) F] at e1
  have s := sg_sq (1 * p)
  have : sg (1 * p) * (sg (1 * p) * Rs 1 p (un 1) F) = sg (1 * p) * (F 0 ^ 1 * (sg (1 * p) * 1)) := by rw [e1]
  rw [← Int.mul_assoc, s, Int.one_mul] at this
  rw [this]; grind
theorem law7 {m : Nat} (m1 : 1 ≤ m) (m3 : m ≤ 3) (hf : ∀ t, m < t → f t = 0) (f0 : f m ≠ 0) : Dc (2 * m) (ev f) = (-4) ^ m * f m * f 0 * (Dc m f * Dc m f) := by
  have hF := ev_low hf
  have hdf := dz_low hf
  have hG : ∀ t, 2 * m - 2 < t → ev (dz f) t = 0 := fun t ht => by
    have := ev_low hdf t (by lia); exact this
  have e2 : comb (un 1) (ev (dz f)) (1 + 1) = shf 1 (ev (dz f)) := by
    funext t; simp only [comb, un]; simp
  have k1 := Rs_mul (m := 2 * m - 2) (n := 1) (p := 2 * m) (f := ev (dz f)) (g := un 1) (h := ev f) (by lia) (by lia) (fun t ht => by unfold un; rw [if_neg (by lia)]) hF hG (by simp [un])
  rw [e2, show 2 * m - 2 + 1 = 2 * m - 1 by lia, Rs_x (by lia) hF] at k1
  have k2 := Rs_swap (m := 2 * m) (n := 2 * m - 1) (by lia) (ev f) (shf 1 (ev (dz f)))
  have k3 := Rs_swap (m := 2 * m) (n := 2 * m - 2) (by lia) (ev f) (ev (dz f))
  have U : unzipped m (m - 1) := by
    rcases (show m = 1 ∨ m = 2 ∨ m = 3 by lia) with rfl | rfl | rfl
    · exact unz1
    · exact unz2
    · exact unz3
  have k4 := Rs_ev (m := m) (k := m - 1) (by lia) U hf hdf
  rw [show 2 * (m - 1) = 2 * m - 2 by lia] at k4
  have s1 : sg (2 * m * (2 * m - 1)) = 1 := by unfold sg; rw [if_pos]; rw [Nat.mul_assoc, Nat.mul_mod_right]
  have s2 : sg (2 * m * (2 * m - 2)) = 1 := by unfold sg; rw [if_pos]; rw [Nat.mul_assoc, Nat.mul_mod_right]
  rw [s1, Int.one_mul] at k2
  rw [s2, Int.one_mul, k4, Rs_Dc m1 m3 hf f0] at k3
  have e3 : ev f 0 = f 0 := rfl
  have e4 : ev f (2 * m) = f m := by unfold ev; rw [if_pos (by lia)]; congr 1; lia
  unfold Dc at *
  rw [dz_ev, Rs_homog2 (by lia), ← k2, k1, k3, e3, e4]
  generalize hD : sg (m * (m - 1) / 2) * (Rs m (m - 1) f (dz f)).fdiv (f m) = D
  have s3 := sg_sq (m * (m - 1) / 2)
  rw [show (2 : Int) ^ (2 * m) * (f m * (sg (m * (m - 1) / 2) * D) * (f m * (sg (m * (m - 1) / 2) * D)) * f 0) = f m * ((2 : Int) ^ (2 * m) * (f m * D * D * f 0)) by grind, fdiv_mul f0]
  rcases (show m = 1 ∨ m = 2 ∨ m = 3 by lia) with rfl | rfl | rfl <;> simp [sg] <;> grind
end
open PySem PySem.W PySem.Spec PySem.Calls PyProof.Rows
/-! the head: the walk's kit lays what stands behind the text's top (hd0.heap_1) and its view (hd0.view_1); the run of the top is one look of the kernel (left) -/
theorem aside {P Q R S : Prop} (_ : P) (_ : Q) (_ : R) (s : S) : S := s
theorem hd0 (bad : ∀ p : Prop, p) : PySem.Challenge.rw_sa0085_01.row.Holds := by
  have ok : PySem.Challenge.rw_sa0085_01.row.wellSaid = true := bad _
  refine' aside ?hl ?hw ?hc ?m
  case m => w_on; k_head
  all_goals exact bad _
theorem said : PySem.Challenge.rw_sa0085_01.wellSaid = true := (congrFun PySem.W.Fast.te9446332074065402090 PySem.Challenge.rw_sa0085_01).trans (by kernel_rfl)
noncomputable def spots : List Addr :=
  [2, 3, 15, 22, 24, 25, 27, 28, 29, 30, 31, 32, 35, 37, 38, 40, 41, 42, 44, 45, 47, 48, 49, 51, 52, 54, 55, 56, 58, 59,
    61, 62, 63, 65, 66, 68, 69, 70, 73, 74, 75, 78, 79, 80, 82, 83, 85, 86, 87, 90, 91, 92, 94, 95, 97, 98, 99, 101,
    102, 104, 105, 106, 109, 110, 111, 113, 114, 116, 117, 118, 120, 121, 123, 124, 125, 128, 129, 130, 133, 134, 135,
    137, 138, 140, 141, 142, 144, 145, 147, 148, 149, 151, 152, 154, 155, 156, 158, 159, 161, 162, 163, 165, 166, 168,
    169, 170, 173, 174, 175, 178, 179, 180, 183, 184]
theorem spots_eq : ∀ P, spots = (hd0.heap_1 P).map (·.1) := fun _ => by kernel_rfl
theorem left_by {p q : Program} {loose : List Str} {Xt : Shared → Bool} {α : Type} {Yf : Shared → α} {Ya : World → α} {N : Nat} {H₀ : Params → Heap} {gs₀ : Array GenState} {d₀ : Drawn} {k₀ : Nat}
    {tr : _} {os : _} {im : _} {tt : _} (e1 : @topRun = tr) (e2 : @openSeen = os) (e3 : @importedModules = im) (e4 : treeTable = tt)
    (open_ : ∀ w : World, (fencedOpening treeTable p w N).map (fun s => (s.heap, s.gens, s.drawn, s.toks)) = some (H₀ w.params, gs₀, d₀, k₀))
    (h : ∀ (w : World) (o : OsState), (match (H₀ w.params).isNs mainGlobals && gs₀.size == 0 with
      | true => (tr tt p w (H₀ w.params).objs.size ((H₀ w.params).nsMap mainGlobals (Str.ofString "__annotations__")) N ⟨H₀ w.params, gs₀, d₀, k₀, o⟩ (topStub p)).bind fun s₁ =>
        match staticsOk (im p.main.body) (H₀ w.params) s₁.heap && namesBound p s₁.heap && gensDone s₁ && laidKept (H₀ w.params) s₁.heap with
        | true => some s₁
        | false => none
      | false => none).map (fun s => (os q loose (im p.main.body) Xt true s, Yf s)) = some (openGood q loose, Ya w)) : LeftO p q loose Xt Yf Ya N := fun w => by
  subst e1 e2 e3 e4
  obtain ⟨⟨hp, gs, d, k, o⟩, e, e'⟩ := Option.map_eq_some_iff.mp (open_ w)
  obtain ⟨rfl, rfl, rfl, rfl⟩ : hp = H₀ w.params ∧ gs = gs₀ ∧ d = d₀ ∧ k = k₀ := by simpa using e'
  unfold openEnds
  rw [e]
  exact h w o
theorem opens : ∀ w : World, (fencedOpening treeTable PySem.Challenge.rw_sa0085_01.row.prog w 2106).map (fun s => (s.heap, s.gens, s.drawn, s.toks)) = some (boot_heap w.params, #[], boot_drawn, boot_toks) :=
  boot_open rfl rfl fun _ => rfl
theorem left : LeftO PySem.Challenge.rw_sa0085_01.row.prog hd0.view_1 [] (fun s => xlAt hd0.view_1 [] s && recOk (RowW.records PySem.Challenge.rw_sa0085_01.row.toRowW) s) (kHook hd0.heap_1 spots spots_eq).obs (kHook hd0.heap_1 spots spots_eq).val 2106 :=
  left_by PySem.W.Fast.te14082659384304107361 PySem.W.Fast.te4187177175401517315 PySem.W.Fast.te5923862056798008813 PySem.W.Fast.te14364793385576792824 opens fun w o => by kernel_rfl
theorem hd {d : DefRec} {kwd : List (Str × PySem.Expr)} (hdef : defOf hd0.view_1 PySem.Challenge.rw_sa0085_01.row.name = some (d, kwd))
    (hp : PySem.Challenge.rw_sa0085_01.row.prog.theDef PySem.Challenge.rw_sa0085_01.row.name = some (d.params, d.body, d.scope)) (hk : kwWritten? d.params.kwonlyargs d.params.kw_defaults = some kwd)
    (call : WalkO hd0.view_1 [] (XL hd0.view_1 []) (kHook hd0.heap_1 spots spots_eq).says PySem.Challenge.rw_sa0085_01.row.toRowW d kwd fun f vs => PySem.call f vs) : PySem.Challenge.rw_sa0085_01.Holds :=
  holds_law said fun ok => holds_open left (kHook hd0.heap_1 spots spots_eq).of (kHook hd0.heap_1 spots spots_eq).keeps (fun s e => xl_of s (Bool.and_eq_true_iff.mp e).1) XL.keeps hdef hp hk (fun s e => recFacts_of (Bool.and_eq_true_iff.mp e).2) rfl ok
    (by decide +kernel) ⟨rfl, rfl, rfl, rfl, rfl, by decide +kernel⟩ (by w_witness2) call
noncomputable abbrev PG : Program := PySem.Challenge.rw_sa0085_01.row.prog

/-- the heap only grows -/
noncomputable abbrev Grows (g h : Heap) : Prop := ∀ b o, g.get? b = some o → h.get? b = some o

/-- what a call of a def of the text does that changes nothing that stood: from a heap as Pre says it ends in a value as out says -/
noncomputable def PCon (w : World) (f : Addr) (args : List Value) (Pre : Heap → Prop) (D : Nat) (out : Heap → Heap → Value → Prop) : Prop :=
  ∀ (dp un : Nat) (gd : Option (List Code)) (cn : Str) (cs : Scope) (a : Addr) (ccd : Value) (cl : List (Str × Addr)) (outer : List Env) (A₀ : Around) (base h₀ : Heap) (L : Addr) (m : Str → Option Value) (s : Shared)
    (p : Program) (loose : List Str) (mean : ExcName → Option Value) (mg mb : Str → Option Value) (Q E : Value → Shared → Prop),
    Below A₀ base outer h₀ → Fr h₀ L s.heap m → (hd0.heap_1 w.params).In h₀ → Top p loose mean mg mb h₀ → cs.kind = .function → Pre s.heap → dp + D < recursionLimit → un + 8 * D < cLine →
    (∀ r h' tk', Grows s.heap h' → out s.heap h' r → Q r { s with heap := h', toks := tk' }) →
    wpAny (model PySem.Challenge.rw_sa0085_01.row.prog w) (ktrTop dp un gd cn cs L a ccd cl outer) (call (.ref f) args) Q E s

/-- a new list of ints came back -/
noncomputable def OutL (ns : List Int) (g h : Heap) (r : Value) : Prop := ∃ d vs n, r = .ref d ∧ h.get? d = some (listOf (List.toArray vs) n) ∧ g.get? d = none ∧ IntsAre vs ns
/-- an int came back -/
noncomputable def OutI (x : Int) (_ _ : Heap) (r : Value) : Prop := ∃ t, r = .int x t

section
variable {prog : Program} {w : World} {A₀ A : Around} {s : Shared} {K : Frag} {base h₀ : Heap} {outer : List Env} {L : Addr} {m mg mb : Str → Option Value} {env : Env} {p : Program} {loose : List Str} {mean : ExcName → Option Value}
  {R : Result → Shared → Prop} {name qual : Str} {params : Arguments} {body : List Stmt} {scope : Scope} {dV kV doc pm cdv ct oc : Value} {an od : Option Addr} {osl : Array (Option Value)} {f : Addr} {args : Args} {binds : List (Str × Value)}

theorem below_here (B : Below A₀ base outer h₀) (F : Fr h₀ L s.heap m) (hA : A.frames = some (env :: outer)) (hf : env.frame = some L) (hke : env.scope.kind = .function) : Below A base (env :: outer) s.heap :=
  (groundX (R := fun _ _ => True) B F News.nil hA hf hke).2.1

theorem code_p (B : Below A₀ base outer h₀) (F : Fr h₀ L s.heap m) (X₀ : K.In h₀) (T : Top p loose mean mg mb h₀) (hA : A.frames = some (env :: outer)) (hf : env.frame = some L) (hke : env.scope.kind = .function)
    (ho : K.lookup f = some ⟨oc, od, .func (fnOf name qual params body scope dV kV doc pm an cdv ct), osl⟩) (hcd : codeIn K cdv qual = true) (hroom : A.depth < recursionLimit)
    (hbind : BindsTo s (fnOf name qual params body scope dV kV doc pm an cdv ct) args binds) (hloc : ∀ y ∈ binds, scope.names.lookup y.1 = some .local)
    (h : ∀ L' h₁, Fr s.heap L' h₁ (fun y => binds.reverse.lookup y) → News s.heap L' h₁ [] → Below A base (env :: outer) s.heap → K.In s.heap → Top p loose mean mg mb s.heap →
      wpAny (model prog w) (A.deeper (envOf qual scope L' f cdv)) (execs body (envOf qual scope L' f cdv))
        (fun fl s' => R (.ok (.ret (match fl with | .ret v => v | _ => .none))) s')
        (fun e s' => wpAny (model prog w) (A.deeper (envOf qual scope L' f cdv)) (leaving (envOf qual scope L' f cdv) e) (fun _ s'' => R (.error e) s'') (fun e' s'' => R (.error e') s'') s')
        { s with heap := h₁, toks := s.toks + binds.length })
    (hco : scope.isCoroutine = false) (hgen : scope.isGenerator = false) (hk : scope.kind = .function)
    (hcell : ∀ x ∈ scope.names, x.2 ≠ .cell) : codeAny (model prog w) A (.call (.ref f) args) R s := by
  have BG := below_here B F hA hf hke
  refine codeAny_call_def (fd := fnX name qual params body scope [] dV kV doc pm an cdv ct) (body := body) (binds := binds) hroom ((X₀.keeps F.keep) _ _ ho) rfl (T.nolimit.keeps F.keep) (codeRec_of (X₀.keeps F.keep) hcd) rfl hbind hcell hloc (fun h₁ hns hk₁ => ?_) hco hgen hk
  exact h s.heap.objs.size h₁ ⟨hns, hk₁, Nat.le_refl _⟩ News.nil BG (X₀.keeps F.keep) (T.keeps F.keep)

theorem code_pC (B : Below A₀ base outer h₀) (F : Fr h₀ L s.heap m) (X₀ : K.In h₀) (T : Top p loose mean mg mb h₀) (hA : A.frames = some (env :: outer)) (hf : env.frame = some L) (hke : env.scope.kind = .function)
    (ho : K.lookup f = some ⟨oc, od, .func (fnOf name qual params body scope dV kV doc pm an cdv ct), osl⟩) (hcd : codeIn K cdv qual = true) (hroom : A.depth < recursionLimit)
    (hbind : BindsTo s (fnOf name qual params body scope dV kV doc pm an cdv ct) args binds) (hkind : (binds.all fun y => scope.names.lookup y.1 == some .local || scope.names.lookup y.1 == some .cell) = true)
    (hnd : ((cellsFrom 0 scope.names []).map (·.1)).Nodup)
    (h : ∀ L' h₁ tk cells, Fr s.heap L' h₁ (bindL (envOfC qual scope L' f cdv).kindOf binds fun _ => none) → News s.heap L' h₁ cells →
      CellsAre (bindC (envOfC qual scope L' f cdv).kindOf binds fun _ => none) (cellsFrom (L' + 1) scope.names []) cells → Below A base (env :: outer) s.heap → K.In s.heap → Top p loose mean mg mb s.heap →
      wpAny (model prog w) (A.deeper (envOfC qual scope L' f cdv)) (execs body (envOfC qual scope L' f cdv))
        (fun fl s' => R (.ok (.ret (match fl with | .ret v => v | _ => .none))) s')
        (fun e s' => wpAny (model prog w) (A.deeper (envOfC qual scope L' f cdv)) (leaving (envOfC qual scope L' f cdv) e) (fun _ s'' => R (.error e) s'') (fun e' s'' => R (.error e') s'') s')
        { s with heap := h₁, toks := tk })
    (hco : scope.isCoroutine = false) (hgen : scope.isGenerator = false) (hk : scope.kind = .function) : codeAny (model prog w) A (.call (.ref f) args) R s := by
  have BG := below_here B F hA hf hke
  refine codeAny_call_function hroom ((X₀.keeps F.keep) _ _ ho) rfl hco hgen rfl (codeRec_of (X₀.keeps F.keep) hcd) (hbind _ _ _ _ ?_)
  refine wpAny_newFunctionEnv_cells hk (kindsX hkind _) fun env' he s' x => ?_
  subst he
  refine ⟨(T.nolimit.keeps F.keep).keeps x.toInCall.keep, codeAny_func ?_⟩
  obtain ⟨h₁, tk, rfl, _⟩ := x.done
  have hk₁ := x.toInCall.keep
  obtain ⟨cells, NC, Y⟩ := Cl.news (h₀ := s.heap) (Nat.le_refl _) fun n c hm => ⟨x.cell n c (lookup_of_mem_nodup (cellsFrom_names scope.names 0 (s.heap.objs.size + 1) [] [] rfl ▸ hnd) hm), x.above n c hm⟩
  exact h s.heap.objs.size h₁ tk cells ⟨x.toInCall.ns, hk₁, Nat.le_refl _⟩ NC Y BG (X₀.keeps F.keep) (T.keeps F.keep)
end
theorem ne_gt {a b : Addr} (h : a < b) : @Ne Nat b a := Nat.ne_of_gt h
theorem ne_lt {a b : Addr} (h : a < b) : @Ne Nat a b := Nat.ne_of_lt h
theorem ne_gt1 {a b : Addr} (h : a < b) : @Ne Nat (b + 1) a := Nat.ne_of_gt (Nat.lt_succ_of_lt h)
section
variable {a b c d e f g i : Prop}
theorem j3 (h : a ∧ b ∧ c) : b := h.2.1
theorem j4 (h : a ∧ b ∧ c) : c := h.2.2
theorem j5 (h : a ∧ b ∧ c ∧ d) : c := h.2.2.1
theorem j6 (h : a ∧ b ∧ c ∧ d) : d := h.2.2.2
theorem j7 (h : a ∧ b ∧ c ∧ d ∧ e) : d := h.2.2.2.1
theorem j8 (h : a ∧ b ∧ c ∧ d ∧ e) : e := h.2.2.2.2
theorem j9 (h : a ∧ b ∧ c ∧ d ∧ e ∧ f) : e := h.2.2.2.2.1
theorem j10 (h : a ∧ b ∧ c ∧ d ∧ e ∧ f) : f := h.2.2.2.2.2
theorem j11 (h : a ∧ b ∧ c ∧ d ∧ e ∧ f ∧ g) : f := h.2.2.2.2.2.1
theorem j12 (h : a ∧ b ∧ c ∧ d ∧ e ∧ f ∧ g) : g := h.2.2.2.2.2.2
theorem j13 (h : a ∧ b ∧ c ∧ d ∧ e ∧ f ∧ g ∧ i) : g := h.2.2.2.2.2.2.1
end
-- a fact out of the context's conjunctions; two addresses apart by such a fact
local macro_rules | `(tactic| walk_at "pj") => `(tactic| first | assumption | exact And.left (by assumption) | exact And.right (by assumption) | exact j3 (by assumption) | exact j4 (by assumption) | exact j5 (by assumption) | exact j6 (by assumption) | exact j7 (by assumption) | exact j8 (by assumption) | exact j9 (by assumption) | exact j10 (by assumption) | exact j11 (by assumption) | exact j12 (by assumption) | exact j13 (by assumption))
local macro_rules | `(tactic| k_ne) => `(tactic| (refine neN ?_; (try dsimp only); first | walk_at "pj" | exact Ne.symm (by walk_at "pj") | exact ne_gt (by walk_at "pj") | exact ne_lt (by walk_at "pj") | exact ne_gt1 (by walk_at "pj") | exact Ne.symm (ne_gt1 (by walk_at "pj")) | omega))

section
variable {w : World} {f : Addr} {args : List Value} {Pre : Heap → Prop} {D : Nat} {dp un : Nat} {gd : Option (List Code)} {cn : Str} {cs : Scope} {a : Addr} {ccd : Value} {cl : List (Str × Addr)} {outer : List Env} {A₀ : Around} {base h₀ : Heap} {L : Addr} {m : Str → Option Value} {s : Shared}
    {p : Program} {loose : List Str} {mean : ExcName → Option Value} {mg mb : Str → Option Value} {Q E : Value → Shared → Prop} {news : List (Addr × Obj)} {ns : List Int} {x : Int}
theorem news_new {h' : Heap} {d : Addr} {o : Obj} (F : Fr h₀ L s.heap m) (N : News h₀ L s.heap news) (g : Grows s.heap h') (hd : h'.get? d = some o) (hn : s.heap.get? d = none) : News h₀ L h' ((d, o) :: news) := fun q hq => by
  rcases List.mem_cons.mp hq with rfl | hq
  · refine ⟨hd, ?_, ?_⟩
    · rintro rfl
      obtain ⟨oL, _, _, hL, _⟩ := F.ns
      rw [hn] at hL; cases hL
    · cases q : h₀.get? d with
      | none => rfl
      | some o' => rw [F.keep _ _ q] at hn; cases hn
  · exact ⟨g _ _ (N q hq).1, (N q hq).2⟩
theorem PCon.useL (C : PCon w f args Pre D (OutL ns)) (B : Below A₀ base outer h₀) (F : Fr h₀ L s.heap m) (X : (hd0.heap_1 w.params).In h₀) (N : News h₀ L s.heap news) (T : Top p loose mean mg mb h₀) (hk : cs.kind = .function) (hpre : Pre s.heap)
    (hd : dp + D < recursionLimit) (hu : un + 8 * D < cLine)
    (ret : ∀ d vs n h' tk', Fr h₀ L h' m → News h₀ L h' ((d, listOf (List.toArray vs) n) :: news) → IntsAre vs ns → (∀ q ∈ news, q.1 ≠ d) → Q (.ref d) { s with heap := h', toks := tk' }) :
    wpAny (model PySem.Challenge.rw_sa0085_01.row.prog w) (ktrTop dp un gd cn cs L a ccd cl outer) (call (.ref f) args) Q E s :=
  C _ _ _ _ _ _ _ _ _ _ _ _ _ _ _ _ _ _ _ _ _ _ B F X T hk hpre hd hu fun r h' tk' g o => by
    obtain ⟨d, vs, n, rfl, h1, h2, h3⟩ := o
    exact ret d vs n h' tk' (F.keeps g) (news_new F N g h1 h2) h3 fun q hq e => by
      have := (N q hq).1; rw [e, h2] at this; cases this
theorem PCon.useI (C : PCon w f args Pre D (OutI x)) (B : Below A₀ base outer h₀) (F : Fr h₀ L s.heap m) (X : (hd0.heap_1 w.params).In h₀) (N : News h₀ L s.heap news) (T : Top p loose mean mg mb h₀) (hk : cs.kind = .function) (hpre : Pre s.heap)
    (hd : dp + D < recursionLimit) (hu : un + 8 * D < cLine)
    (ret : ∀ t h' tk', Fr h₀ L h' m → News h₀ L h' news → Q (.int x t) { s with heap := h', toks := tk' }) :
    wpAny (model PySem.Challenge.rw_sa0085_01.row.prog w) (ktrTop dp un gd cn cs L a ccd cl outer) (call (.ref f) args) Q E s :=
  C _ _ _ _ _ _ _ _ _ _ _ _ _ _ _ _ _ _ _ _ _ _ B F X T hk hpre hd hu fun r h' tk' g o => by
    obtain ⟨t, rfl⟩ := o
    exact ret t h' tk' (F.keeps g) (N.grown g)
end

section
variable {s : Shared} {L : Addr} {h : Heap} {m : Str → Option Value} {news : List (Addr × Obj)} {D : Addr} {vs : List Value} {n : Nat} {X ns : List Int} {Q : Value → Shared → Prop} {tk : Nat}
theorem endL (hret : ∀ r h' tk', Grows s.heap h' → OutL ns s.heap h' r → Q r { s with heap := h', toks := tk' }) (F : Fr s.heap L h m) (N : News s.heap L h news) (hm : (D, listOf (List.toArray vs) n) ∈ news) (hi : IntsAre vs X) (e : X = ns) :
    Q (.ref D) { s with heap := h, toks := tk } := hret _ _ _ F.keep ⟨D, vs, n, rfl, (N _ hm).1, (N _ hm).2.2, e ▸ hi⟩
theorem endP {ds : List PyData} (hret : ∀ r h' tk', Grows s.heap h' → OutL ns s.heap h' r → Q r { s with heap := h', toks := tk' }) (F : Fr s.heap L h m) (hn : s.heap.get? D = none) (hp : NewPlain h news D vs.toArray) (hc : CarriedAll vs ds) (e : ds = ns.map PyData.int) :
    Q (.ref D) { s with heap := h, toks := tk } := by
  obtain ⟨⟨n, q⟩, _⟩ := hp
  exact hret _ _ _ F.keep ⟨D, vs, n, rfl, q, hn, IntsAre.ofCarried (e ▸ hc)⟩
theorem endI {x y : Int} {t : Tok} (hret : ∀ r h' tk', Grows s.heap h' → OutI x s.heap h' r → Q r { s with heap := h', toks := tk' }) (F : Fr s.heap L h m) (e : y = x) :
    Q (.int y t) { s with heap := h, toks := tk } := hret _ _ _ F.keep ⟨t, e ▸ rfl⟩
end

noncomputable abbrev Sml (x : Int) : Prop := Builtin.Int.intBits x ≤ 1048576
noncomputable abbrev SmlL (ns : List Int) : Prop := ∀ x ∈ ns, Sml x
theorem SmlL.get {ns : List Int} (h : SmlL ns) (i : Nat) : Sml (ns.getD i 0) := by
  by_cases hi : i < ns.length
  · have e : ns.getD i 0 = ns[i] := by simp [List.getD, hi]
    rw [e]; exact h _ (List.getElem_mem hi)
  · have e : ns.getD i 0 = 0 := by simp [List.getD, Nat.not_lt.mp hi]
    rw [e]; decide

local macro_rules | `(tactic| mul_fits) => `(tactic| ((with_reducible show PySem.IntMulOk _ _); refine PySem.IntMulOk.of_bits ?_ ?_ <;> walk_at "p small"))
local macro_rules | `(tactic| walk_at "p small") => `(tactic| first
  | assumption
  | (refine (SmlL.get (ns := _) ?_ _); assumption)
  | (exact (by assumption : SmlL _) _ (by assumption))
  | (exact PySem.intBits_le_64 (by omega) (by omega) |>.trans (by decide)))

-- the sides of a call by its contract
local macro_rules | `(tactic| walk_at "p sides") => `(tactic| (
  (case k1 => k_asm)
  (case k2 => k_asm)
  (case k3 => k_asm)
  (case k4 => k_asm)
  (case k5 => k_asm)
  (case kK => first | exact rfl | assumption)
  (case kd => ktr_room)
  (case ku => ktr_units)))
theorem log2_of_bits {x : Int} {n : Nat} (h : Builtin.Int.intBits x ≤ n) (hn : n ≤ 9000) : x.natAbs.log2 < 9000 := by
  unfold Builtin.Int.intBits at h
  split at h
  · rename_i h0
    have : x = 0 := beq_iff_eq.mp h0
    subst this; decide
  · omega
theorem pow_room {a n : Int} (ha : Sml a) (h0 : 0 ≤ n) (hn : n ≤ 100) : (Builtin.Int.intBits a : Int) * n ≤ 2 ^ 27 := by
  have h1 : (Builtin.Int.intBits a : Int) ≤ 1048576 := by have h := ha; unfold Sml at h; omega
  have h2 : (Builtin.Int.intBits a : Int) * n ≤ 1048576 * 100 := Int.mul_le_mul h1 hn h0 (by decide)
  have : (2 : Int) ^ 27 = 134217728 := by decide
  omega
local macro_rules | `(tactic| walk_at "p nonzero") => `(tactic| first | assumption | omega)
local macro_rules | `(tactic| walk_at "p bits") => `(tactic| first | assumption | fail "p bits")
local macro_rules | `(tactic| walk_at "binaryOp FloorDiv int int") => `(tactic| (k_here; (with_reducible refine floordiv_int ?pd1 ?_ (Or.inl (PyProof.noPylong_of_log2 (log2_of_bits (n := 9000) ?pd2 (Nat.le_refl _))))); (case pd1 => walk_at "p nonzero"); (case pd2 => walk_at "p bits")))
local macro_rules | `(tactic| walk_at "binaryOp Pow int int") => `(tactic| (k_here; (with_reducible refine pow_int ?pd1 (pow_room ?pd2 ?pd3 ?pd4) ?_); (case pd1 => omega); (case pd2 => walk_at "p small"); (case pd3 => omega); (case pd4 => omega)))
local macro_rules | `(tactic| walk_at "exec") => `(tactic| ((with_reducible show wpAny _ _ (exec (Stmt.While _ _ [] _) _) _ _ _); k_extra "while"))
local macro_rules | `(tactic| walk_at "p afterI") => `(tactic| (k_whole; intro t9 h9 tk9 F9 N9; (try dsimp only); (try k_sweep); (try k_fold)))
local macro_rules | `(tactic| walk_at "p afterL") => `(tactic| (k_whole; intro d9 v9 n9 h9 tk9 F9 N9 I9 o9; (try dsimp only); (try k_sweep); (try k_fold)))
local macro_rules | `(tactic| walk_at "p len") => `(tactic| first | assumption | omega | ((simp only [List.length_map, rangeKs_length, List.length_append, List.length_cons, List.length_nil, List.length_replicate, List.length_drop, List.length_take, pNeg_length, pDiv_length]); omega) | ((with_reducible refine trim_len ?_); walk_at "p len") | ((with_reducible refine pAdd_len ?_ ?_) <;> walk_at "p len") | ((with_reducible refine pSub_len ?_ ?_) <;> walk_at "p len") | ((with_reducible refine pScale_len ?_); walk_at "p len") | ((with_reducible refine pRaise_len ?_); walk_at "p len"))
local macro_rules | `(tactic| walk_at "p list") => `(tactic| first | (with_reducible assumption) | exact Fr.lst (by assumption) (by assumption) | (refine' News.isList ?N9 ?m9; (case N9 => k_asm); (case m9 => k_mem)))
local macro_rules | `(tactic| walk_at "p ints") => `(tactic| first | (with_reducible assumption) | exact IntsAre.nil | (exact IntsAre.cons _ _ IntsAre.nil) | (exact IntsAre.cons _ _ (IntsAre.cons _ _ IntsAre.nil)) | l_ints)
set_option maxHeartbeats 8000000 in
theorem con_zneg (w : World) (l : Addr) (vs : List Value) (ns : List Int) (hi : IntsAre vs ns) (hlen : ns.length ≤ 64) :
    PCon w 79 [.ref l] (fun h => h.IsList l vs.toArray) 1 (OutL (pNeg ns)) := by
  ((unfold PCon; intro dpq9 unq9 gdq9 cnq9 csq9 aq9 ccdq9 clq9 outerq9 A₀q9 baseq9 h₀q9 Lq9 mq9 sq9 pq9 looseq9 meanq9 mgq9 mbq9 Qq9 Eq9 Bq9 Fq9 Xq9 Tq9 hkq9 hpreq9 hdq9 huq9 hretq9; revert Bq9 Fq9 Xq9 Tq9 hkq9 hpreq9 hdq9 huq9 hretq9; k_fill; intro Bq9 Fq9 Xq9 Tq9 hkq9 hpreq9 hdq9 huq9 hretq9; refine wpAny_call ?_); k_dflt (first | (refine' code_p ?k1q2 ?k2q2 ?k3q2 ?k5q2 ?kAq2 ?kFq2 ?kKq2 ?k6q2 ?k7q2 ?k8q2 ?k9q2 ?kBq2 ?_ ?c2q2 ?c3q2 ?c4q2 ?c5q2; (case kAq2 => exact rfl); (case kFq2 => exact rfl); (case kKq2 => assumption); (case k1q2 => k_asm); (case k2q2 => k_asm); (case k3q2 => k_asm); (case k5q2 => k_asm); (case k6q2 => k_is); (case k7q2 => k_is); (case k8q2 => ktr_room); (case k9q2 => exact BindsTo.of_eq rfl); (case c5q2 => decide); (case kBq2 => exact locs rfl); (case c2q2 => exact rfl); (case c3q2 => exact rfl); (case c4q2 => exact rfl); k_whole; (rename Fr _ _ _ _ => kF0); clear kF0; (rename Frag.In _ _ => kF0); clear kF0;  (rename Top _ _ _ _ _ _ => kF0); clear kF0; (rename Below _ _ _ _ => kF0); clear kF0; intro L' h' F' N' B' X' T'; (try dsimp only); (try k_fold)) | (refine' code_pC ?k1q2 ?k2q2 ?k3q2 ?k5q2 ?kAq2 ?kFq2 ?kKq2 ?k6q2 ?k7q2 ?k8q2 ?k9q2 ?kBq2 ?kDq2 ?_ ?c2q2 ?c3q2 ?c4q2; (case kAq2 => exact rfl); (case kFq2 => exact rfl); (case kKq2 => assumption); (case k1q2 => k_asm); (case k2q2 => k_asm); (case k3q2 => k_asm); (case k5q2 => k_asm); (case k6q2 => k_is); (case k7q2 => k_is); (case k8q2 => ktr_room); (case k9q2 => exact BindsTo.of_eq rfl); (case kBq2 => exact rfl); (case kDq2 => decide +kernel); (case c2q2 => exact rfl); (case c3q2 => exact rfl); (case c4q2 => exact rfl); k_whole; (rename Fr _ _ _ _ => kF0); clear kF0; (rename Frag.In _ _ => kF0); clear kF0;  (rename Top _ _ _ _ _ _ => kF0); clear kF0; (rename Below _ _ _ _ => kF0); clear kF0; intro L' h' tk' cells' F' N' Y' B' X' T'; k_cells Y'; (try simp only [List.cons_append, List.nil_append] at N'); (try dsimp only); (try k_fold))))
  k_steps
  all_goals ((try (k_unfold; (try dsimp only))); (try dsimp only); (try (k_unfold; (try dsimp only))); (first | ((rename (∀ r h' tk', Grows _ h' → OutL _ _ h' r → _) => hret9); (first | (refine' endL hret9 (by k_asm) (by k_asm) (by k_mem) (by assumption) ?_) | (refine' endL hret9 (by k_asm) (by k_asm) (by k_mem) IntsAre.nil ?_) | (refine' endP hret9 (by k_asm) (by assumption) (by assumption) (by assumption) ?_))) | ((rename (∀ r h' tk', Grows _ h' → OutI _ _ h' r → _) => hret9); (refine' endI hret9 (by k_asm) ?_))))
  rw [List.filter_eq_self.mpr (by simp)]; simp [pNeg, Function.comp_def]

set_option maxHeartbeats 8000000 in
theorem con_zdegree (w : World) (l : Addr) (vs : List Value) (ns : List Int) (hi : IntsAre vs ns) (hlen : ns.length ≤ 64) :
    PCon w 62 [.ref l] (fun h => h.IsList l vs.toArray) 1 (OutI (ns.length - 1)) := by
  ((unfold PCon; intro dpq9 unq9 gdq9 cnq9 csq9 aq9 ccdq9 clq9 outerq9 A₀q9 baseq9 h₀q9 Lq9 mq9 sq9 pq9 looseq9 meanq9 mgq9 mbq9 Qq9 Eq9 Bq9 Fq9 Xq9 Tq9 hkq9 hpreq9 hdq9 huq9 hretq9; revert Bq9 Fq9 Xq9 Tq9 hkq9 hpreq9 hdq9 huq9 hretq9; k_fill; intro Bq9 Fq9 Xq9 Tq9 hkq9 hpreq9 hdq9 huq9 hretq9; refine wpAny_call ?_); k_dflt (first | (refine' code_p ?k1q4 ?k2q4 ?k3q4 ?k5q4 ?kAq4 ?kFq4 ?kKq4 ?k6q4 ?k7q4 ?k8q4 ?k9q4 ?kBq4 ?_ ?c2q4 ?c3q4 ?c4q4 ?c5q4; (case kAq4 => exact rfl); (case kFq4 => exact rfl); (case kKq4 => assumption); (case k1q4 => k_asm); (case k2q4 => k_asm); (case k3q4 => k_asm); (case k5q4 => k_asm); (case k6q4 => k_is); (case k7q4 => k_is); (case k8q4 => ktr_room); (case k9q4 => exact BindsTo.of_eq rfl); (case c5q4 => decide); (case kBq4 => exact locs rfl); (case c2q4 => exact rfl); (case c3q4 => exact rfl); (case c4q4 => exact rfl); k_whole; (rename Fr _ _ _ _ => kF0); clear kF0; (rename Frag.In _ _ => kF0); clear kF0;  (rename Top _ _ _ _ _ _ => kF0); clear kF0; (rename Below _ _ _ _ => kF0); clear kF0; intro L' h' F' N' B' X' T'; (try dsimp only); (try k_fold)) | (refine' code_pC ?k1q4 ?k2q4 ?k3q4 ?k5q4 ?kAq4 ?kFq4 ?kKq4 ?k6q4 ?k7q4 ?k8q4 ?k9q4 ?kBq4 ?kDq4 ?_ ?c2q4 ?c3q4 ?c4q4; (case kAq4 => exact rfl); (case kFq4 => exact rfl); (case kKq4 => assumption); (case k1q4 => k_asm); (case k2q4 => k_asm); (case k3q4 => k_asm); (case k5q4 => k_asm); (case k6q4 => k_is); (case k7q4 => k_is); (case k8q4 => ktr_room); (case k9q4 => exact BindsTo.of_eq rfl); (case kBq4 => exact rfl); (case kDq4 => decide +kernel); (case c2q4 => exact rfl); (case c3q4 => exact rfl); (case c4q4 => exact rfl); k_whole; (rename Fr _ _ _ _ => kF0); clear kF0; (rename Frag.In _ _ => kF0); clear kF0;  (rename Top _ _ _ _ _ _ => kF0); clear kF0; (rename Below _ _ _ _ => kF0); clear kF0; intro L' h' tk' cells' F' N' Y' B' X' T'; k_cells Y'; (try simp only [List.cons_append, List.nil_append] at N'); (try dsimp only); (try k_fold))))
  k_steps
  all_goals ((try (k_unfold; (try dsimp only))); (try dsimp only); (try (k_unfold; (try dsimp only))); (first | ((rename (∀ r h' tk', Grows _ h' → OutL _ _ h' r → _) => hret9); (first | (refine' endL hret9 (by k_asm) (by k_asm) (by k_mem) (by assumption) ?_) | (refine' endL hret9 (by k_asm) (by k_asm) (by k_mem) IntsAre.nil ?_) | (refine' endP hret9 (by k_asm) (by assumption) (by assumption) (by assumption) ?_))) | ((rename (∀ r h' tk', Grows _ h' → OutI _ _ h' r → _) => hret9); (refine' endI hret9 (by k_asm) ?_))))
  rfl

theorem lead_a {ns : List Int} {n : Int} (h : n = ns.length) (h1 : 0 < n) : ns.getD (-1 + n).toNat 0 = lead ns := by
  unfold lead cut; congr 1; omega
theorem lead_b {ns : List Int} (h1 : ns.length = 0) : 0 = lead ns := by
  rw [List.length_eq_zero_iff] at h1; subst h1; rfl
set_option maxHeartbeats 8000000 in
theorem con_zlead (w : World) (l : Addr) (vs : List Value) (ns : List Int) (hi : IntsAre vs ns) (hlen : ns.length ≤ 64) :
    PCon w 69 [.ref l] (fun h => h.IsList l vs.toArray) 1 (OutI (lead ns)) := by
  ((unfold PCon; intro dpq9 unq9 gdq9 cnq9 csq9 aq9 ccdq9 clq9 outerq9 A₀q9 baseq9 h₀q9 Lq9 mq9 sq9 pq9 looseq9 meanq9 mgq9 mbq9 Qq9 Eq9 Bq9 Fq9 Xq9 Tq9 hkq9 hpreq9 hdq9 huq9 hretq9; revert Bq9 Fq9 Xq9 Tq9 hkq9 hpreq9 hdq9 huq9 hretq9; k_fill; intro Bq9 Fq9 Xq9 Tq9 hkq9 hpreq9 hdq9 huq9 hretq9; refine wpAny_call ?_); k_dflt (first | (refine' code_p ?k1q6 ?k2q6 ?k3q6 ?k5q6 ?kAq6 ?kFq6 ?kKq6 ?k6q6 ?k7q6 ?k8q6 ?k9q6 ?kBq6 ?_ ?c2q6 ?c3q6 ?c4q6 ?c5q6; (case kAq6 => exact rfl); (case kFq6 => exact rfl); (case kKq6 => assumption); (case k1q6 => k_asm); (case k2q6 => k_asm); (case k3q6 => k_asm); (case k5q6 => k_asm); (case k6q6 => k_is); (case k7q6 => k_is); (case k8q6 => ktr_room); (case k9q6 => exact BindsTo.of_eq rfl); (case c5q6 => decide); (case kBq6 => exact locs rfl); (case c2q6 => exact rfl); (case c3q6 => exact rfl); (case c4q6 => exact rfl); k_whole; (rename Fr _ _ _ _ => kF0); clear kF0; (rename Frag.In _ _ => kF0); clear kF0;  (rename Top _ _ _ _ _ _ => kF0); clear kF0; (rename Below _ _ _ _ => kF0); clear kF0; intro L' h' F' N' B' X' T'; (try dsimp only); (try k_fold)) | (refine' code_pC ?k1q6 ?k2q6 ?k3q6 ?k5q6 ?kAq6 ?kFq6 ?kKq6 ?k6q6 ?k7q6 ?k8q6 ?k9q6 ?kBq6 ?kDq6 ?_ ?c2q6 ?c3q6 ?c4q6; (case kAq6 => exact rfl); (case kFq6 => exact rfl); (case kKq6 => assumption); (case k1q6 => k_asm); (case k2q6 => k_asm); (case k3q6 => k_asm); (case k5q6 => k_asm); (case k6q6 => k_is); (case k7q6 => k_is); (case k8q6 => ktr_room); (case k9q6 => exact BindsTo.of_eq rfl); (case kBq6 => exact rfl); (case kDq6 => decide +kernel); (case c2q6 => exact rfl); (case c3q6 => exact rfl); (case c4q6 => exact rfl); k_whole; (rename Fr _ _ _ _ => kF0); clear kF0; (rename Frag.In _ _ => kF0); clear kF0;  (rename Top _ _ _ _ _ _ => kF0); clear kF0; (rename Below _ _ _ _ => kF0); clear kF0; intro L' h' tk' cells' F' N' Y' B' X' T'; k_cells Y'; (try simp only [List.cons_append, List.nil_append] at N'); (try dsimp only); (try k_fold))))
  k_steps
  all_goals ((try (k_unfold; (try dsimp only))); (try dsimp only); (try (k_unfold; (try dsimp only))); (first | ((rename (∀ r h' tk', Grows _ h' → OutL _ _ h' r → _) => hret9); (first | (refine' endL hret9 (by k_asm) (by k_asm) (by k_mem) (by assumption) ?_) | (refine' endL hret9 (by k_asm) (by k_asm) (by k_mem) IntsAre.nil ?_) | (refine' endP hret9 (by k_asm) (by assumption) (by assumption) (by assumption) ?_))) | ((rename (∀ r h' tk', Grows _ h' → OutI _ _ h' r → _) => hret9); (refine' endI hret9 (by k_asm) ?_))))
  · exact lead_a rfl (by omega)
  · exact lead_b (by omega)

theorem ztrim_end {ns : List Int} {k : Int} (h0 : k ≤ ns.length) (h1 : min (ns.length : Int) 0 ≤ k)
    (h2 : ∀ j : Int, k < j → j ≤ ns.length → (if 0 < j then if (ns.getD (j - 1).toNat 0 == 0) = true then true else false else false) = true)
    (h3 : (if 0 < k then if (ns.getD (k - 1).toNat 0 == 0) = true then true else false else false) = false) : List.take k.toNat ns = trim ns := by
  refine take_eq_trim ns k.toNat (by omega) (fun j hj hl => ?_) ?_
  · have := h2 (j + 1) (by omega) (by omega)
    rw [if_pos (by omega)] at this
    have e : ((j : Int) + 1 - 1).toNat = j := by omega
    rw [e] at this
    simpa [cut] using this
  · by_cases hk : 0 < k
    · rw [if_pos hk] at h3
      have e : (k - 1).toNat = k.toNat - 1 := by omega
      rw [e] at h3
      exact .inr (by simpa [cut] using h3)
    · exact .inl (by omega)
set_option maxHeartbeats 8000000 in
theorem con_ztrim (w : World) (l : Addr) (vs : List Value) (ns : List Int) (hi : IntsAre vs ns) (hlen : ns.length ≤ 64) :
    PCon w 55 [.ref l] (fun h => h.IsList l vs.toArray) 1 (OutL (trim ns)) := by
  ((unfold PCon; intro dpq9 unq9 gdq9 cnq9 csq9 aq9 ccdq9 clq9 outerq9 A₀q9 baseq9 h₀q9 Lq9 mq9 sq9 pq9 looseq9 meanq9 mgq9 mbq9 Qq9 Eq9 Bq9 Fq9 Xq9 Tq9 hkq9 hpreq9 hdq9 huq9 hretq9; revert Bq9 Fq9 Xq9 Tq9 hkq9 hpreq9 hdq9 huq9 hretq9; k_fill; intro Bq9 Fq9 Xq9 Tq9 hkq9 hpreq9 hdq9 huq9 hretq9; refine wpAny_call ?_); k_dflt (first | (refine' code_p ?k1q8 ?k2q8 ?k3q8 ?k5q8 ?kAq8 ?kFq8 ?kKq8 ?k6q8 ?k7q8 ?k8q8 ?k9q8 ?kBq8 ?_ ?c2q8 ?c3q8 ?c4q8 ?c5q8; (case kAq8 => exact rfl); (case kFq8 => exact rfl); (case kKq8 => assumption); (case k1q8 => k_asm); (case k2q8 => k_asm); (case k3q8 => k_asm); (case k5q8 => k_asm); (case k6q8 => k_is); (case k7q8 => k_is); (case k8q8 => ktr_room); (case k9q8 => exact BindsTo.of_eq rfl); (case c5q8 => decide); (case kBq8 => exact locs rfl); (case c2q8 => exact rfl); (case c3q8 => exact rfl); (case c4q8 => exact rfl); k_whole; (rename Fr _ _ _ _ => kF0); clear kF0; (rename Frag.In _ _ => kF0); clear kF0;  (rename Top _ _ _ _ _ _ => kF0); clear kF0; (rename Below _ _ _ _ => kF0); clear kF0; intro L' h' F' N' B' X' T'; (try dsimp only); (try k_fold)) | (refine' code_pC ?k1q8 ?k2q8 ?k3q8 ?k5q8 ?kAq8 ?kFq8 ?kKq8 ?k6q8 ?k7q8 ?k8q8 ?k9q8 ?kBq8 ?kDq8 ?_ ?c2q8 ?c3q8 ?c4q8; (case kAq8 => exact rfl); (case kFq8 => exact rfl); (case kKq8 => assumption); (case k1q8 => k_asm); (case k2q8 => k_asm); (case k3q8 => k_asm); (case k5q8 => k_asm); (case k6q8 => k_is); (case k7q8 => k_is); (case k8q8 => ktr_room); (case k9q8 => exact BindsTo.of_eq rfl); (case kBq8 => exact rfl); (case kDq8 => decide +kernel); (case c2q8 => exact rfl); (case c3q8 => exact rfl); (case c4q8 => exact rfl); k_whole; (rename Fr _ _ _ _ => kF0); clear kF0; (rename Frag.In _ _ => kF0); clear kF0;  (rename Top _ _ _ _ _ _ => kF0); clear kF0; (rename Below _ _ _ _ => kF0); clear kF0; intro L' h' tk' cells' F' N' Y' B' X' T'; k_cells Y'; (try simp only [List.cons_append, List.nil_append] at N'); (try dsimp only); (try k_fold))))
  k_steps
  all_goals ((try (k_unfold; (try dsimp only))); (try dsimp only); (try (k_unfold; (try dsimp only))); (first | ((rename (∀ r h' tk', Grows _ h' → OutL _ _ h' r → _) => hret9); (first | (refine' endL hret9 (by k_asm) (by k_asm) (by k_mem) (by assumption) ?_) | (refine' endL hret9 (by k_asm) (by k_asm) (by k_mem) IntsAre.nil ?_) | (refine' endP hret9 (by k_asm) (by assumption) (by assumption) (by assumption) ?_))) | ((rename (∀ r h' tk', Grows _ h' → OutI _ _ h' r → _) => hret9); (refine' endI hret9 (by k_asm) ?_))))
  exact ztrim_end (by assumption) (by assumption) (by assumption) (by assumption)

set_option maxHeartbeats 8000000 in
theorem con_zscale (w : World) (l : Addr) (vs : List Value) (ns : List Int) (k : Int) (tk : Tok) (hi : IntsAre vs ns) (hlen : ns.length ≤ 64) (hs : SmlL ns) (hk : Sml k) :
    PCon w 91 [.ref l, .int k tk] (fun h => h.IsList l vs.toArray) 1 (OutL (pScale ns k)) := by
  ((unfold PCon; intro dpq9 unq9 gdq9 cnq9 csq9 aq9 ccdq9 clq9 outerq9 A₀q9 baseq9 h₀q9 Lq9 mq9 sq9 pq9 looseq9 meanq9 mgq9 mbq9 Qq9 Eq9 Bq9 Fq9 Xq9 Tq9 hkq9 hpreq9 hdq9 huq9 hretq9; revert Bq9 Fq9 Xq9 Tq9 hkq9 hpreq9 hdq9 huq9 hretq9; k_fill; intro Bq9 Fq9 Xq9 Tq9 hkq9 hpreq9 hdq9 huq9 hretq9; refine wpAny_call ?_); k_dflt (first | (refine' code_p ?k1q10 ?k2q10 ?k3q10 ?k5q10 ?kAq10 ?kFq10 ?kKq10 ?k6q10 ?k7q10 ?k8q10 ?k9q10 ?kBq10 ?_ ?c2q10 ?c3q10 ?c4q10 ?c5q10; (case kAq10 => exact rfl); (case kFq10 => exact rfl); (case kKq10 => assumption); (case k1q10 => k_asm); (case k2q10 => k_asm); (case k3q10 => k_asm); (case k5q10 => k_asm); (case k6q10 => k_is); (case k7q10 => k_is); (case k8q10 => ktr_room); (case k9q10 => exact BindsTo.of_eq rfl); (case c5q10 => decide); (case kBq10 => exact locs rfl); (case c2q10 => exact rfl); (case c3q10 => exact rfl); (case c4q10 => exact rfl); k_whole; (rename Fr _ _ _ _ => kF0); clear kF0; (rename Frag.In _ _ => kF0); clear kF0;  (rename Top _ _ _ _ _ _ => kF0); clear kF0; (rename Below _ _ _ _ => kF0); clear kF0; intro L' h' F' N' B' X' T'; (try dsimp only); (try k_fold)) | (refine' code_pC ?k1q10 ?k2q10 ?k3q10 ?k5q10 ?kAq10 ?kFq10 ?kKq10 ?k6q10 ?k7q10 ?k8q10 ?k9q10 ?kBq10 ?kDq10 ?_ ?c2q10 ?c3q10 ?c4q10; (case kAq10 => exact rfl); (case kFq10 => exact rfl); (case kKq10 => assumption); (case k1q10 => k_asm); (case k2q10 => k_asm); (case k3q10 => k_asm); (case k5q10 => k_asm); (case k6q10 => k_is); (case k7q10 => k_is); (case k8q10 => ktr_room); (case k9q10 => exact BindsTo.of_eq rfl); (case kBq10 => exact rfl); (case kDq10 => decide +kernel); (case c2q10 => exact rfl); (case c3q10 => exact rfl); (case c4q10 => exact rfl); k_whole; (rename Fr _ _ _ _ => kF0); clear kF0; (rename Frag.In _ _ => kF0); clear kF0;  (rename Top _ _ _ _ _ _ => kF0); clear kF0; (rename Below _ _ _ _ => kF0); clear kF0; intro L' h' tk' cells' F' N' Y' B' X' T'; k_cells Y'; (try simp only [List.cons_append, List.nil_append] at N'); (try dsimp only); (try k_fold))))
  k_steps
  all_goals ((try (k_unfold; (try dsimp only))); (try dsimp only); (try (k_unfold; (try dsimp only))); (first | ((rename (∀ r h' tk', Grows _ h' → OutL _ _ h' r → _) => hret9); (first | (refine' endL hret9 (by k_asm) (by k_asm) (by k_mem) (by assumption) ?_) | (refine' endL hret9 (by k_asm) (by k_asm) (by k_mem) IntsAre.nil ?_) | (refine' endP hret9 (by k_asm) (by assumption) (by assumption) (by assumption) ?_))) | ((rename (∀ r h' tk', Grows _ h' → OutI _ _ h' r → _) => hret9); (refine' endI hret9 (by k_asm) ?_))))
  · rw [pScale, if_neg (by assumption)]
  · rw [pScale, if_pos (by assumption)]

set_option maxHeartbeats 8000000 in
theorem con_divided (w : World) (l : Addr) (vs : List Value) (ns : List Int) (k : Int) (tk : Tok) (hi : IntsAre vs ns) (hlen : ns.length ≤ 64) (hk : k ≠ 0) (hb : Builtin.Int.intBits k ≤ 9000) :
    PCon w 129 [.ref l, .int k tk] (fun h => h.IsList l vs.toArray) 1 (OutL (pDiv ns k)) := by
  ((unfold PCon; intro dpq9 unq9 gdq9 cnq9 csq9 aq9 ccdq9 clq9 outerq9 A₀q9 baseq9 h₀q9 Lq9 mq9 sq9 pq9 looseq9 meanq9 mgq9 mbq9 Qq9 Eq9 Bq9 Fq9 Xq9 Tq9 hkq9 hpreq9 hdq9 huq9 hretq9; revert Bq9 Fq9 Xq9 Tq9 hkq9 hpreq9 hdq9 huq9 hretq9; k_fill; intro Bq9 Fq9 Xq9 Tq9 hkq9 hpreq9 hdq9 huq9 hretq9; refine wpAny_call ?_); k_dflt (first | (refine' code_p ?k1q12 ?k2q12 ?k3q12 ?k5q12 ?kAq12 ?kFq12 ?kKq12 ?k6q12 ?k7q12 ?k8q12 ?k9q12 ?kBq12 ?_ ?c2q12 ?c3q12 ?c4q12 ?c5q12; (case kAq12 => exact rfl); (case kFq12 => exact rfl); (case kKq12 => assumption); (case k1q12 => k_asm); (case k2q12 => k_asm); (case k3q12 => k_asm); (case k5q12 => k_asm); (case k6q12 => k_is); (case k7q12 => k_is); (case k8q12 => ktr_room); (case k9q12 => exact BindsTo.of_eq rfl); (case c5q12 => decide); (case kBq12 => exact locs rfl); (case c2q12 => exact rfl); (case c3q12 => exact rfl); (case c4q12 => exact rfl); k_whole; (rename Fr _ _ _ _ => kF0); clear kF0; (rename Frag.In _ _ => kF0); clear kF0;  (rename Top _ _ _ _ _ _ => kF0); clear kF0; (rename Below _ _ _ _ => kF0); clear kF0; intro L' h' F' N' B' X' T'; (try dsimp only); (try k_fold)) | (refine' code_pC ?k1q12 ?k2q12 ?k3q12 ?k5q12 ?kAq12 ?kFq12 ?kKq12 ?k6q12 ?k7q12 ?k8q12 ?k9q12 ?kBq12 ?kDq12 ?_ ?c2q12 ?c3q12 ?c4q12; (case kAq12 => exact rfl); (case kFq12 => exact rfl); (case kKq12 => assumption); (case k1q12 => k_asm); (case k2q12 => k_asm); (case k3q12 => k_asm); (case k5q12 => k_asm); (case k6q12 => k_is); (case k7q12 => k_is); (case k8q12 => ktr_room); (case k9q12 => exact BindsTo.of_eq rfl); (case kBq12 => exact rfl); (case kDq12 => decide +kernel); (case c2q12 => exact rfl); (case c3q12 => exact rfl); (case c4q12 => exact rfl); k_whole; (rename Fr _ _ _ _ => kF0); clear kF0; (rename Frag.In _ _ => kF0); clear kF0;  (rename Top _ _ _ _ _ _ => kF0); clear kF0; (rename Below _ _ _ _ => kF0); clear kF0; intro L' h' tk' cells' F' N' Y' B' X' T'; k_cells Y'; (try simp only [List.cons_append, List.nil_append] at N'); (try dsimp only); (try k_fold))))
  k_steps
  all_goals ((try (k_unfold; (try dsimp only))); (try dsimp only); (try (k_unfold; (try dsimp only))); (first | ((rename (∀ r h' tk', Grows _ h' → OutL _ _ h' r → _) => hret9); (first | (refine' endL hret9 (by k_asm) (by k_asm) (by k_mem) (by assumption) ?_) | (refine' endL hret9 (by k_asm) (by k_asm) (by k_mem) IntsAre.nil ?_) | (refine' endP hret9 (by k_asm) (by assumption) (by assumption) (by assumption) ?_))) | ((rename (∀ r h' tk', Grows _ h' → OutI _ _ h' r → _) => hret9); (refine' endI hret9 (by k_asm) ?_))))
  rfl
theorem gcd_abs (x : Int) : (if x < 0 then -x else x) = (x.natAbs : Int) := by omega
theorem gcd_start (x y : Int) : 0 ≤ (if x < 0 then -x else x) ∧ 0 ≤ (if y < 0 then -y else y) ∧ Int.gcd (if x < 0 then -x else x) (if y < 0 then -y else y) = Int.gcd x y := by
  rw [gcd_abs, gcd_abs]
  refine ⟨by omega, by omega, ?_⟩
  simp [Int.gcd]
theorem gcd_turn {a b x y : Int} (h1 : 0 ≤ a) (h2 : 0 ≤ b) (h3 : Int.gcd a b = Int.gcd x y) (hb : b ≠ 0) : 0 ≤ b ∧ 0 ≤ a.fmod b ∧ Int.gcd b (a.fmod b) = Int.gcd x y := by
  rw [Int.fmod_eq_emod_of_nonneg _ h2]
  refine ⟨h2, Int.emod_nonneg _ hb, ?_⟩
  rw [← h3]
  have e1 : (a % b).natAbs = a.natAbs % b.natAbs := by
    have := Int.natAbs_emod_of_nonneg h1 b
    exact this
  show Nat.gcd b.natAbs (a % b).natAbs = Nat.gcd a.natAbs b.natAbs
  rw [e1, Nat.gcd_comm b.natAbs, Nat.gcd_comm a.natAbs b.natAbs, ← Nat.gcd_rec]
theorem gcd_meas {a b : Int} (h2 : 0 ≤ b) (hb : b ≠ 0) : (a.fmod b).toNat < b.toNat := by
  rw [Int.fmod_eq_emod_of_nonneg _ h2]
  have := Int.emod_lt_of_pos a (show 0 < b by omega)
  have := Int.emod_nonneg a hb
  omega
theorem gcd_fin {a b x y : Int} (h1 : 0 ≤ a) (h3 : Int.gcd a b = Int.gcd x y) (hb : b = 0) : a = (Int.gcd x y : Int) := by
  subst hb
  rw [← h3, Int.gcd_zero]
  omega
set_option maxHeartbeats 8000000 in
theorem con_gcd (w : World) (x y : Int) (t u : Tok) :
    PCon w 41 [.int x t, .int y u] (fun _ => True) 1 (OutI (Int.gcd x y)) := by
  ((unfold PCon; intro dpq9 unq9 gdq9 cnq9 csq9 aq9 ccdq9 clq9 outerq9 A₀q9 baseq9 h₀q9 Lq9 mq9 sq9 pq9 looseq9 meanq9 mgq9 mbq9 Qq9 Eq9 Bq9 Fq9 Xq9 Tq9 hkq9 hpreq9 hdq9 huq9 hretq9; revert Bq9 Fq9 Xq9 Tq9 hkq9 hpreq9 hdq9 huq9 hretq9; k_fill; intro Bq9 Fq9 Xq9 Tq9 hkq9 hpreq9 hdq9 huq9 hretq9; refine wpAny_call ?_); k_dflt (first | (refine' code_p ?k1q14 ?k2q14 ?k3q14 ?k5q14 ?kAq14 ?kFq14 ?kKq14 ?k6q14 ?k7q14 ?k8q14 ?k9q14 ?kBq14 ?_ ?c2q14 ?c3q14 ?c4q14 ?c5q14; (case kAq14 => exact rfl); (case kFq14 => exact rfl); (case kKq14 => assumption); (case k1q14 => k_asm); (case k2q14 => k_asm); (case k3q14 => k_asm); (case k5q14 => k_asm); (case k6q14 => k_is); (case k7q14 => k_is); (case k8q14 => ktr_room); (case k9q14 => exact BindsTo.of_eq rfl); (case c5q14 => decide); (case kBq14 => exact locs rfl); (case c2q14 => exact rfl); (case c3q14 => exact rfl); (case c4q14 => exact rfl); k_whole; (rename Fr _ _ _ _ => kF0); clear kF0; (rename Frag.In _ _ => kF0); clear kF0;  (rename Top _ _ _ _ _ _ => kF0); clear kF0; (rename Below _ _ _ _ => kF0); clear kF0; intro L' h' F' N' B' X' T'; (try dsimp only); (try k_fold)) | (refine' code_pC ?k1q14 ?k2q14 ?k3q14 ?k5q14 ?kAq14 ?kFq14 ?kKq14 ?k6q14 ?k7q14 ?k8q14 ?k9q14 ?kBq14 ?kDq14 ?_ ?c2q14 ?c3q14 ?c4q14; (case kAq14 => exact rfl); (case kFq14 => exact rfl); (case kKq14 => assumption); (case k1q14 => k_asm); (case k2q14 => k_asm); (case k3q14 => k_asm); (case k5q14 => k_asm); (case k6q14 => k_is); (case k7q14 => k_is); (case k8q14 => ktr_room); (case k9q14 => exact BindsTo.of_eq rfl); (case kBq14 => exact rfl); (case kDq14 => decide +kernel); (case c2q14 => exact rfl); (case c3q14 => exact rfl); (case c4q14 => exact rfl); k_whole; (rename Fr _ _ _ _ => kF0); clear kF0; (rename Frag.In _ _ => kF0); clear kF0;  (rename Top _ _ _ _ _ _ => kF0); clear kF0; (rename Below _ _ _ _ => kF0); clear kF0; intro L' h' tk' cells' F' N' Y' B' X' T'; k_cells Y'; (try simp only [List.cons_append, List.nil_append] at N'); (try dsimp only); (try k_fold))))
  k_with_none
  k_with "while" => k_while (fun _ a b => 0 ≤ a ∧ 0 ≤ b ∧ Int.gcd a b = Int.gcd x y) (fun _ _ b => b.toNat) "a" "b"
  k_with "state" => first | exact gcd_start x y | exact gcd_turn (by assumption) (by assumption) (by assumption) (by assumption)
  k_with "measure" => exact gcd_meas (by assumption) (by assumption)
  k_steps
  all_goals ((try (k_unfold; (try dsimp only))); (try dsimp only); (try (k_unfold; (try dsimp only))); (first | ((rename (∀ r h' tk', Grows _ h' → OutL _ _ h' r → _) => hret9); (first | (refine' endL hret9 (by k_asm) (by k_asm) (by k_mem) (by assumption) ?_) | (refine' endL hret9 (by k_asm) (by k_asm) (by k_mem) IntsAre.nil ?_) | (refine' endP hret9 (by k_asm) (by assumption) (by assumption) (by assumption) ?_))) | ((rename (∀ r h' tk', Grows _ h' → OutI _ _ h' r → _) => hret9); (refine' endI hret9 (by k_asm) ?_))))
  all_goals exact gcd_fin (by assumption) (by assumption) (by assumption)
local macro_rules | `(tactic| walk_at "call ref") => `(tactic| (k_here; k_dflt (refine' PCon.useI (con_gcd _ _ _ _ _) ?k1 ?k2 ?k3 ?k4 ?k5 ?kK trivial ?kd ?ku ?_; walk_at "p sides"); walk_at "p afterI"))
local macro_rules | `(tactic| walk_at "call ref") => `(tactic| (k_here; k_dflt (refine' PCon.useL (con_ztrim _ _ _ _ ?hi ?hlen) ?k1 ?k2 ?k3 ?k4 ?k5 ?kK ?pre ?kd ?ku ?_; (case pre => walk_at "p list"); (case hi => walk_at "p ints"); (case hlen => walk_at "p len"); walk_at "p sides"); walk_at "p afterL"))
set_option maxHeartbeats 8000000 in
theorem con_gcd_all (w : World) (l : Addr) (vs : List Value) (ns : List Int) (hi : IntsAre vs ns) (hlen : ns.length ≤ 64) :
    PCon w 48 [.ref l] (fun h => h.IsList l vs.toArray) 2 (OutI (content ns)) := by
  ((unfold PCon; intro dpq9 unq9 gdq9 cnq9 csq9 aq9 ccdq9 clq9 outerq9 A₀q9 baseq9 h₀q9 Lq9 mq9 sq9 pq9 looseq9 meanq9 mgq9 mbq9 Qq9 Eq9 Bq9 Fq9 Xq9 Tq9 hkq9 hpreq9 hdq9 huq9 hretq9; revert Bq9 Fq9 Xq9 Tq9 hkq9 hpreq9 hdq9 huq9 hretq9; k_fill; intro Bq9 Fq9 Xq9 Tq9 hkq9 hpreq9 hdq9 huq9 hretq9; refine wpAny_call ?_); k_dflt (first | (refine' code_p ?k1q16 ?k2q16 ?k3q16 ?k5q16 ?kAq16 ?kFq16 ?kKq16 ?k6q16 ?k7q16 ?k8q16 ?k9q16 ?kBq16 ?_ ?c2q16 ?c3q16 ?c4q16 ?c5q16; (case kAq16 => exact rfl); (case kFq16 => exact rfl); (case kKq16 => assumption); (case k1q16 => k_asm); (case k2q16 => k_asm); (case k3q16 => k_asm); (case k5q16 => k_asm); (case k6q16 => k_is); (case k7q16 => k_is); (case k8q16 => ktr_room); (case k9q16 => exact BindsTo.of_eq rfl); (case c5q16 => decide); (case kBq16 => exact locs rfl); (case c2q16 => exact rfl); (case c3q16 => exact rfl); (case c4q16 => exact rfl); k_whole; (rename Fr _ _ _ _ => kF0); clear kF0; (rename Frag.In _ _ => kF0); clear kF0;  (rename Top _ _ _ _ _ _ => kF0); clear kF0; (rename Below _ _ _ _ => kF0); clear kF0; intro L' h' F' N' B' X' T'; (try dsimp only); (try k_fold)) | (refine' code_pC ?k1q16 ?k2q16 ?k3q16 ?k5q16 ?kAq16 ?kFq16 ?kKq16 ?k6q16 ?k7q16 ?k8q16 ?k9q16 ?kBq16 ?kDq16 ?_ ?c2q16 ?c3q16 ?c4q16; (case kAq16 => exact rfl); (case kFq16 => exact rfl); (case kKq16 => assumption); (case k1q16 => k_asm); (case k2q16 => k_asm); (case k3q16 => k_asm); (case k5q16 => k_asm); (case k6q16 => k_is); (case k7q16 => k_is); (case k8q16 => ktr_room); (case k9q16 => exact BindsTo.of_eq rfl); (case kBq16 => exact rfl); (case kDq16 => decide +kernel); (case c2q16 => exact rfl); (case c3q16 => exact rfl); (case c4q16 => exact rfl); k_whole; (rename Fr _ _ _ _ => kF0); clear kF0; (rename Frag.In _ _ => kF0); clear kF0;  (rename Top _ _ _ _ _ _ => kF0); clear kF0; (rename Below _ _ _ _ => kF0); clear kF0; intro L' h' tk' cells' F' N' Y' B' X' T'; k_cells Y'; (try simp only [List.cons_append, List.nil_append] at N'); (try dsimp only); (try k_fold))))
  k_with_none
  k_steps
  all_goals ((try (k_unfold; (try dsimp only))); (try dsimp only); (try (k_unfold; (try dsimp only))); (first | ((rename (∀ r h' tk', Grows _ h' → OutL _ _ h' r → _) => hret9); (first | (refine' endL hret9 (by k_asm) (by k_asm) (by k_mem) (by assumption) ?_) | (refine' endL hret9 (by k_asm) (by k_asm) (by k_mem) IntsAre.nil ?_) | (refine' endP hret9 (by k_asm) (by assumption) (by assumption) (by assumption) ?_))) | ((rename (∀ r h' tk', Grows _ h' → OutI _ _ h' r → _) => hret9); (refine' endI hret9 (by k_asm) ?_))))
  rfl

theorem zadd_end (ns ns1 : List Int) : trim (List.map (fun k' : Int => if k' < (ns.length : Int) ∧ k' < (ns1.length : Int) then ns.getD k'.toNat 0 + ns1.getD k'.toNat 0
          else if k' < (ns.length : Int) ∧ ¬k' < (ns1.length : Int) then ns.getD k'.toNat 0 + 0 else 0 + ns1.getD k'.toNat 0)
        (rangeKs 0 ((if (ns1.length : Int) > (ns.length : Int) then (ns1.length : Int) else (ns.length : Int)) - 0).toNat)) = pAdd ns ns1 := by
  unfold pAdd addL
  congr 1
  have e : ((if (ns1.length : Int) > (ns.length : Int) then (ns1.length : Int) else (ns.length : Int)) - 0).toNat = max ns.length ns1.length := by omega
  rw [e, rangeKs, List.map_map]
  apply List.map_congr_left
  intro i hi
  have hi := List.mem_range.mp hi
  have e2 : ((0 : Int) + (i : Int)).toNat = i := by omega
  simp only [Function.comp, e2]
  have a1 : ∀ {l : List Int}, ¬ (0 : Int) + (i : Int) < (l.length : Int) → cut l i = 0 := fun {l} h => by
    unfold cut; rw [List.getD_eq_getElem?_getD, List.getElem?_eq_none (by omega)]; rfl
  by_cases h1 : (0 : Int) + (i : Int) < (ns.length : Int) <;> by_cases h2 : (0 : Int) + (i : Int) < (ns1.length : Int) <;> simp only [h1, h2, and_self, and_true, and_false, true_and, false_and, if_true, if_false, not_true_eq_false, not_false_eq_true]
  · rfl
  · rw [a1 h2]; rfl
  · rw [a1 h1]; rfl
  · omega
set_option maxHeartbeats 8000000 in
theorem con_zadd (w : World) (l : Addr) (vs : List Value) (ns : List Int) (hi : IntsAre vs ns) (hlen : ns.length ≤ 64) (l1 : Addr) (vs1 : List Value) (ns1 : List Int) (hi1 : IntsAre vs1 ns1) (hlen1 : ns1.length ≤ 64) :
    PCon w 74 [.ref l, .ref l1] (fun h => h.IsList l vs.toArray ∧ h.IsList l1 vs1.toArray) 2 (OutL (pAdd ns ns1)) := by
  ((unfold PCon; intro dpq9 unq9 gdq9 cnq9 csq9 aq9 ccdq9 clq9 outerq9 A₀q9 baseq9 h₀q9 Lq9 mq9 sq9 pq9 looseq9 meanq9 mgq9 mbq9 Qq9 Eq9 Bq9 Fq9 Xq9 Tq9 hkq9 hpreq9 hdq9 huq9 hretq9; revert Bq9 Fq9 Xq9 Tq9 hkq9 hpreq9 hdq9 huq9 hretq9; k_fill; intro Bq9 Fq9 Xq9 Tq9 hkq9 hpreq9 hdq9 huq9 hretq9; refine wpAny_call ?_); k_dflt (first | (refine' code_p ?k1q18 ?k2q18 ?k3q18 ?k5q18 ?kAq18 ?kFq18 ?kKq18 ?k6q18 ?k7q18 ?k8q18 ?k9q18 ?kBq18 ?_ ?c2q18 ?c3q18 ?c4q18 ?c5q18; (case kAq18 => exact rfl); (case kFq18 => exact rfl); (case kKq18 => assumption); (case k1q18 => k_asm); (case k2q18 => k_asm); (case k3q18 => k_asm); (case k5q18 => k_asm); (case k6q18 => k_is); (case k7q18 => k_is); (case k8q18 => ktr_room); (case k9q18 => exact BindsTo.of_eq rfl); (case c5q18 => decide); (case kBq18 => exact locs rfl); (case c2q18 => exact rfl); (case c3q18 => exact rfl); (case c4q18 => exact rfl); k_whole; (rename Fr _ _ _ _ => kF0); clear kF0; (rename Frag.In _ _ => kF0); clear kF0;  (rename Top _ _ _ _ _ _ => kF0); clear kF0; (rename Below _ _ _ _ => kF0); clear kF0; intro L' h' F' N' B' X' T'; (try dsimp only); (try k_fold)) | (refine' code_pC ?k1q18 ?k2q18 ?k3q18 ?k5q18 ?kAq18 ?kFq18 ?kKq18 ?k6q18 ?k7q18 ?k8q18 ?k9q18 ?kBq18 ?kDq18 ?_ ?c2q18 ?c3q18 ?c4q18; (case kAq18 => exact rfl); (case kFq18 => exact rfl); (case kKq18 => assumption); (case k1q18 => k_asm); (case k2q18 => k_asm); (case k3q18 => k_asm); (case k5q18 => k_asm); (case k6q18 => k_is); (case k7q18 => k_is); (case k8q18 => ktr_room); (case k9q18 => exact BindsTo.of_eq rfl); (case kBq18 => exact rfl); (case kDq18 => decide +kernel); (case c2q18 => exact rfl); (case c3q18 => exact rfl); (case c4q18 => exact rfl); k_whole; (rename Fr _ _ _ _ => kF0); clear kF0; (rename Frag.In _ _ => kF0); clear kF0;  (rename Top _ _ _ _ _ _ => kF0); clear kF0; (rename Below _ _ _ _ => kF0); clear kF0; intro L' h' tk' cells' F' N' Y' B' X' T'; k_cells Y'; (try simp only [List.cons_append, List.nil_append] at N'); (try dsimp only); (try k_fold))))
  k_with_none
  (rename _ ∧ _ => hp9; obtain ⟨hp8, hp9⟩ := hp9)
  k_steps
  all_goals ((try (k_unfold; (try dsimp only))); (try dsimp only); (try (k_unfold; (try dsimp only))); (first | ((rename (∀ r h' tk', Grows _ h' → OutL _ _ h' r → _) => hret9); (first | (refine' endL hret9 (by k_asm) (by k_asm) (by k_mem) (by assumption) ?_) | (refine' endL hret9 (by k_asm) (by k_asm) (by k_mem) IntsAre.nil ?_) | (refine' endP hret9 (by k_asm) (by assumption) (by assumption) (by assumption) ?_))) | ((rename (∀ r h' tk', Grows _ h' → OutI _ _ h' r → _) => hret9); (refine' endI hret9 (by k_asm) ?_))))
  exact zadd_end ns ns1

local macro_rules | `(tactic| walk_at "call ref") => `(tactic| (k_here; k_dflt (refine' PCon.useI (con_gcd_all _ _ _ _ ?hi ?hlen) ?k1 ?k2 ?k3 ?k4 ?k5 ?kK ?pre ?kd ?ku ?_; (case pre => walk_at "p list"); (case hi => walk_at "p ints"); (case hlen => walk_at "p len"); walk_at "p sides"); walk_at "p afterI"))
set_option maxHeartbeats 8000000 in
theorem con_zcontent (w : World) (l : Addr) (vs : List Value) (ns : List Int) (hi : IntsAre vs ns) (hlen : ns.length ≤ 64) :
    PCon w 105 [.ref l] (fun h => h.IsList l vs.toArray) 3 (OutI (content ns)) := by
  ((unfold PCon; intro dpq9 unq9 gdq9 cnq9 csq9 aq9 ccdq9 clq9 outerq9 A₀q9 baseq9 h₀q9 Lq9 mq9 sq9 pq9 looseq9 meanq9 mgq9 mbq9 Qq9 Eq9 Bq9 Fq9 Xq9 Tq9 hkq9 hpreq9 hdq9 huq9 hretq9; revert Bq9 Fq9 Xq9 Tq9 hkq9 hpreq9 hdq9 huq9 hretq9; k_fill; intro Bq9 Fq9 Xq9 Tq9 hkq9 hpreq9 hdq9 huq9 hretq9; refine wpAny_call ?_); k_dflt (first | (refine' code_p ?k1q20 ?k2q20 ?k3q20 ?k5q20 ?kAq20 ?kFq20 ?kKq20 ?k6q20 ?k7q20 ?k8q20 ?k9q20 ?kBq20 ?_ ?c2q20 ?c3q20 ?c4q20 ?c5q20; (case kAq20 => exact rfl); (case kFq20 => exact rfl); (case kKq20 => assumption); (case k1q20 => k_asm); (case k2q20 => k_asm); (case k3q20 => k_asm); (case k5q20 => k_asm); (case k6q20 => k_is); (case k7q20 => k_is); (case k8q20 => ktr_room); (case k9q20 => exact BindsTo.of_eq rfl); (case c5q20 => decide); (case kBq20 => exact locs rfl); (case c2q20 => exact rfl); (case c3q20 => exact rfl); (case c4q20 => exact rfl); k_whole; (rename Fr _ _ _ _ => kF0); clear kF0; (rename Frag.In _ _ => kF0); clear kF0;  (rename Top _ _ _ _ _ _ => kF0); clear kF0; (rename Below _ _ _ _ => kF0); clear kF0; intro L' h' F' N' B' X' T'; (try dsimp only); (try k_fold)) | (refine' code_pC ?k1q20 ?k2q20 ?k3q20 ?k5q20 ?kAq20 ?kFq20 ?kKq20 ?k6q20 ?k7q20 ?k8q20 ?k9q20 ?kBq20 ?kDq20 ?_ ?c2q20 ?c3q20 ?c4q20; (case kAq20 => exact rfl); (case kFq20 => exact rfl); (case kKq20 => assumption); (case k1q20 => k_asm); (case k2q20 => k_asm); (case k3q20 => k_asm); (case k5q20 => k_asm); (case k6q20 => k_is); (case k7q20 => k_is); (case k8q20 => ktr_room); (case k9q20 => exact BindsTo.of_eq rfl); (case kBq20 => exact rfl); (case kDq20 => decide +kernel); (case c2q20 => exact rfl); (case c3q20 => exact rfl); (case c4q20 => exact rfl); k_whole; (rename Fr _ _ _ _ => kF0); clear kF0; (rename Frag.In _ _ => kF0); clear kF0;  (rename Top _ _ _ _ _ _ => kF0); clear kF0; (rename Below _ _ _ _ => kF0); clear kF0; intro L' h' tk' cells' F' N' Y' B' X' T'; k_cells Y'; (try simp only [List.cons_append, List.nil_append] at N'); (try dsimp only); (try k_fold))))
  k_with_none
  k_steps
  all_goals ((try (k_unfold; (try dsimp only))); (try dsimp only); (try (k_unfold; (try dsimp only))); (first | ((rename (∀ r h' tk', Grows _ h' → OutL _ _ h' r → _) => hret9); (first | (refine' endL hret9 (by k_asm) (by k_asm) (by k_mem) (by assumption) ?_) | (refine' endL hret9 (by k_asm) (by k_asm) (by k_mem) IntsAre.nil ?_) | (refine' endP hret9 (by k_asm) (by assumption) (by assumption) (by assumption) ?_))) | ((rename (∀ r h' tk', Grows _ h' → OutI _ _ h' r → _) => hret9); (refine' endI hret9 (by k_asm) ?_))))
  rfl

local macro_rules | `(tactic| walk_at "call ref") => `(tactic| (k_here; k_dflt (refine' PCon.useL (con_zneg _ _ _ _ ?hi ?hlen) ?k1 ?k2 ?k3 ?k4 ?k5 ?kK ?pre ?kd ?ku ?_; (case pre => walk_at "p list"); (case hi => walk_at "p ints"); (case hlen => walk_at "p len"); walk_at "p sides"); walk_at "p afterL"))
local macro_rules | `(tactic| walk_at "call ref") => `(tactic| (k_here; k_dflt (refine' PCon.useL (con_zadd _ _ _ _ ?hi ?hlen _ _ _ ?hi1 ?hlen1) ?k1 ?k2 ?k3 ?k4 ?k5 ?kK (And.intro ?pre ?pre1) ?kd ?ku ?_; (case pre => walk_at "p list"); (case pre1 => walk_at "p list"); (case hi => walk_at "p ints"); (case hi1 => walk_at "p ints"); (case hlen => walk_at "p len"); (case hlen1 => walk_at "p len"); walk_at "p sides"); walk_at "p afterL"))
set_option maxHeartbeats 8000000 in
theorem con_zsub (w : World) (l : Addr) (vs : List Value) (ns : List Int) (hi : IntsAre vs ns) (hlen : ns.length ≤ 64) (l1 : Addr) (vs1 : List Value) (ns1 : List Int) (hi1 : IntsAre vs1 ns1) (hlen1 : ns1.length ≤ 64) :
    PCon w 86 [.ref l, .ref l1] (fun h => h.IsList l vs.toArray ∧ h.IsList l1 vs1.toArray) 3 (OutL (pSub ns ns1)) := by
  ((unfold PCon; intro dpq9 unq9 gdq9 cnq9 csq9 aq9 ccdq9 clq9 outerq9 A₀q9 baseq9 h₀q9 Lq9 mq9 sq9 pq9 looseq9 meanq9 mgq9 mbq9 Qq9 Eq9 Bq9 Fq9 Xq9 Tq9 hkq9 hpreq9 hdq9 huq9 hretq9; revert Bq9 Fq9 Xq9 Tq9 hkq9 hpreq9 hdq9 huq9 hretq9; k_fill; intro Bq9 Fq9 Xq9 Tq9 hkq9 hpreq9 hdq9 huq9 hretq9; refine wpAny_call ?_); k_dflt (first | (refine' code_p ?k1q22 ?k2q22 ?k3q22 ?k5q22 ?kAq22 ?kFq22 ?kKq22 ?k6q22 ?k7q22 ?k8q22 ?k9q22 ?kBq22 ?_ ?c2q22 ?c3q22 ?c4q22 ?c5q22; (case kAq22 => exact rfl); (case kFq22 => exact rfl); (case kKq22 => assumption); (case k1q22 => k_asm); (case k2q22 => k_asm); (case k3q22 => k_asm); (case k5q22 => k_asm); (case k6q22 => k_is); (case k7q22 => k_is); (case k8q22 => ktr_room); (case k9q22 => exact BindsTo.of_eq rfl); (case c5q22 => decide); (case kBq22 => exact locs rfl); (case c2q22 => exact rfl); (case c3q22 => exact rfl); (case c4q22 => exact rfl); k_whole; (rename Fr _ _ _ _ => kF0); clear kF0; (rename Frag.In _ _ => kF0); clear kF0;  (rename Top _ _ _ _ _ _ => kF0); clear kF0; (rename Below _ _ _ _ => kF0); clear kF0; intro L' h' F' N' B' X' T'; (try dsimp only); (try k_fold)) | (refine' code_pC ?k1q22 ?k2q22 ?k3q22 ?k5q22 ?kAq22 ?kFq22 ?kKq22 ?k6q22 ?k7q22 ?k8q22 ?k9q22 ?kBq22 ?kDq22 ?_ ?c2q22 ?c3q22 ?c4q22; (case kAq22 => exact rfl); (case kFq22 => exact rfl); (case kKq22 => assumption); (case k1q22 => k_asm); (case k2q22 => k_asm); (case k3q22 => k_asm); (case k5q22 => k_asm); (case k6q22 => k_is); (case k7q22 => k_is); (case k8q22 => ktr_room); (case k9q22 => exact BindsTo.of_eq rfl); (case kBq22 => exact rfl); (case kDq22 => decide +kernel); (case c2q22 => exact rfl); (case c3q22 => exact rfl); (case c4q22 => exact rfl); k_whole; (rename Fr _ _ _ _ => kF0); clear kF0; (rename Frag.In _ _ => kF0); clear kF0;  (rename Top _ _ _ _ _ _ => kF0); clear kF0; (rename Below _ _ _ _ => kF0); clear kF0; intro L' h' tk' cells' F' N' Y' B' X' T'; k_cells Y'; (try simp only [List.cons_append, List.nil_append] at N'); (try dsimp only); (try k_fold))))
  k_with_none
  (rename _ ∧ _ => hp9; obtain ⟨hp8, hp9⟩ := hp9)
  k_steps
  all_goals ((try (k_unfold; (try dsimp only))); (try dsimp only); (try (k_unfold; (try dsimp only))); (first | ((rename (∀ r h' tk', Grows _ h' → OutL _ _ h' r → _) => hret9); (first | (refine' endL hret9 (by k_asm) (by k_asm) (by k_mem) (by assumption) ?_) | (refine' endL hret9 (by k_asm) (by k_asm) (by k_mem) IntsAre.nil ?_) | (refine' endP hret9 (by k_asm) (by assumption) (by assumption) (by assumption) ?_))) | ((rename (∀ r h' tk', Grows _ h' → OutI _ _ h' r → _) => hret9); (refine' endI hret9 (by k_asm) ?_))))
  rfl


theorem con_check (w : World) (l : Addr) (vs : List Value) (ns : List Int) (hi : IntsAre vs ns) (hlen : ns.length ≤ 64) (h0 : 0 < ns.length) :
    PCon w 117 [.ref l] (fun h => h.IsList l vs.toArray) 1 (fun _ _ r => r = .none) := by
  ((unfold PCon; intro dpq9 unq9 gdq9 cnq9 csq9 aq9 ccdq9 clq9 outerq9 A₀q9 baseq9 h₀q9 Lq9 mq9 sq9 pq9 looseq9 meanq9 mgq9 mbq9 Qq9 Eq9 Bq9 Fq9 Xq9 Tq9 hkq9 hpreq9 hdq9 huq9 hretq9; revert Bq9 Fq9 Xq9 Tq9 hkq9 hpreq9 hdq9 huq9 hretq9; k_fill; intro Bq9 Fq9 Xq9 Tq9 hkq9 hpreq9 hdq9 huq9 hretq9; refine wpAny_call ?_); k_dflt (first | (refine' code_p ?k1q24 ?k2q24 ?k3q24 ?k5q24 ?kAq24 ?kFq24 ?kKq24 ?k6q24 ?k7q24 ?k8q24 ?k9q24 ?kBq24 ?_ ?c2q24 ?c3q24 ?c4q24 ?c5q24; (case kAq24 => exact rfl); (case kFq24 => exact rfl); (case kKq24 => assumption); (case k1q24 => k_asm); (case k2q24 => k_asm); (case k3q24 => k_asm); (case k5q24 => k_asm); (case k6q24 => k_is); (case k7q24 => k_is); (case k8q24 => ktr_room); (case k9q24 => exact BindsTo.of_eq rfl); (case c5q24 => decide); (case kBq24 => exact locs rfl); (case c2q24 => exact rfl); (case c3q24 => exact rfl); (case c4q24 => exact rfl); k_whole; (rename Fr _ _ _ _ => kF0); clear kF0; (rename Frag.In _ _ => kF0); clear kF0;  (rename Top _ _ _ _ _ _ => kF0); clear kF0; (rename Below _ _ _ _ => kF0); clear kF0; intro L' h' F' N' B' X' T'; (try dsimp only); (try k_fold)) | (refine' code_pC ?k1q24 ?k2q24 ?k3q24 ?k5q24 ?kAq24 ?kFq24 ?kKq24 ?k6q24 ?k7q24 ?k8q24 ?k9q24 ?kBq24 ?kDq24 ?_ ?c2q24 ?c3q24 ?c4q24; (case kAq24 => exact rfl); (case kFq24 => exact rfl); (case kKq24 => assumption); (case k1q24 => k_asm); (case k2q24 => k_asm); (case k3q24 => k_asm); (case k5q24 => k_asm); (case k6q24 => k_is); (case k7q24 => k_is); (case k8q24 => ktr_room); (case k9q24 => exact BindsTo.of_eq rfl); (case kBq24 => exact rfl); (case kDq24 => decide +kernel); (case c2q24 => exact rfl); (case c3q24 => exact rfl); (case c4q24 => exact rfl); k_whole; (rename Fr _ _ _ _ => kF0); clear kF0; (rename Frag.In _ _ => kF0); clear kF0;  (rename Top _ _ _ _ _ _ => kF0); clear kF0; (rename Below _ _ _ _ => kF0); clear kF0; intro L' h' tk' cells' F' N' Y' B' X' T'; k_cells Y'; (try simp only [List.cons_append, List.nil_append] at N'); (try dsimp only); (try k_fold))))
  k_with_none
  k_steps
  · omega
  · (rename (∀ r h' tk', Grows _ h' → _ → _) => hret9); exact hret9 _ _ _ (Fr.keep (by assumption)) rfl

theorem zraise_end (ns : List Int) (k : Int) (h : 0 < ns.length) : (List.replicate k.toNat [0]).flatten ++ ns = pRaise ns k.toNat := by
  unfold pRaise
  rw [if_neg (by rintro rfl; simp at h)]
  congr 1
  induction k.toNat with
  | zero => rfl
  | succ n ih => simp [List.replicate_succ]
set_option maxHeartbeats 8000000 in
theorem con_zraise (w : World) (l : Addr) (vs : List Value) (ns : List Int) (hi : IntsAre vs ns) (hlen : ns.length ≤ 32) (k : Int) (t : Tok) (hk : 0 ≤ k) (hk1 : k ≤ 32) :
    PCon w 98 [.ref l, .int k t] (fun h => h.IsList l vs.toArray) 1 (OutL (pRaise ns k.toNat)) := by
  ((unfold PCon; intro dpq9 unq9 gdq9 cnq9 csq9 aq9 ccdq9 clq9 outerq9 A₀q9 baseq9 h₀q9 Lq9 mq9 sq9 pq9 looseq9 meanq9 mgq9 mbq9 Qq9 Eq9 Bq9 Fq9 Xq9 Tq9 hkq9 hpreq9 hdq9 huq9 hretq9; revert Bq9 Fq9 Xq9 Tq9 hkq9 hpreq9 hdq9 huq9 hretq9; k_fill; intro Bq9 Fq9 Xq9 Tq9 hkq9 hpreq9 hdq9 huq9 hretq9; refine wpAny_call ?_); k_dflt (first | (refine' code_p ?k1q26 ?k2q26 ?k3q26 ?k5q26 ?kAq26 ?kFq26 ?kKq26 ?k6q26 ?k7q26 ?k8q26 ?k9q26 ?kBq26 ?_ ?c2q26 ?c3q26 ?c4q26 ?c5q26; (case kAq26 => exact rfl); (case kFq26 => exact rfl); (case kKq26 => assumption); (case k1q26 => k_asm); (case k2q26 => k_asm); (case k3q26 => k_asm); (case k5q26 => k_asm); (case k6q26 => k_is); (case k7q26 => k_is); (case k8q26 => ktr_room); (case k9q26 => exact BindsTo.of_eq rfl); (case c5q26 => decide); (case kBq26 => exact locs rfl); (case c2q26 => exact rfl); (case c3q26 => exact rfl); (case c4q26 => exact rfl); k_whole; (rename Fr _ _ _ _ => kF0); clear kF0; (rename Frag.In _ _ => kF0); clear kF0;  (rename Top _ _ _ _ _ _ => kF0); clear kF0; (rename Below _ _ _ _ => kF0); clear kF0; intro L' h' F' N' B' X' T'; (try dsimp only); (try k_fold)) | (refine' code_pC ?k1q26 ?k2q26 ?k3q26 ?k5q26 ?kAq26 ?kFq26 ?kKq26 ?k6q26 ?k7q26 ?k8q26 ?k9q26 ?kBq26 ?kDq26 ?_ ?c2q26 ?c3q26 ?c4q26; (case kAq26 => exact rfl); (case kFq26 => exact rfl); (case kKq26 => assumption); (case k1q26 => k_asm); (case k2q26 => k_asm); (case k3q26 => k_asm); (case k5q26 => k_asm); (case k6q26 => k_is); (case k7q26 => k_is); (case k8q26 => ktr_room); (case k9q26 => exact BindsTo.of_eq rfl); (case kBq26 => exact rfl); (case kDq26 => decide +kernel); (case c2q26 => exact rfl); (case c3q26 => exact rfl); (case c4q26 => exact rfl); k_whole; (rename Fr _ _ _ _ => kF0); clear kF0; (rename Frag.In _ _ => kF0); clear kF0;  (rename Top _ _ _ _ _ _ => kF0); clear kF0; (rename Below _ _ _ _ => kF0); clear kF0; intro L' h' tk' cells' F' N' Y' B' X' T'; k_cells Y'; (try simp only [List.cons_append, List.nil_append] at N'); (try dsimp only); (try k_fold))))
  k_with_none
  k_steps
  all_goals ((try (k_unfold; (try dsimp only))); (try dsimp only); (try (k_unfold; (try dsimp only))); (first | ((rename (∀ r h' tk', Grows _ h' → OutL _ _ h' r → _) => hret9); (first | (refine' endL hret9 (by k_asm) (by k_asm) (by k_mem) (by assumption) ?_) | (refine' endL hret9 (by k_asm) (by k_asm) (by k_mem) IntsAre.nil ?_) | (refine' endP hret9 (by k_asm) (by assumption) (by assumption) (by assumption) ?_))) | ((rename (∀ r h' tk', Grows _ h' → OutI _ _ h' r → _) => hret9); (refine' endI hret9 (by k_asm) ?_))))
  · exact zraise_end _ _ (by omega)
  · exact (if_pos (List.length_eq_zero_iff.mp (by omega))).symm
section
variable {prog : Program} {w : World} {A : Around} {E : Value → Shared → Prop} {s : Shared} {env : Env}

theorem cp_block {elt iter : Expr} {x x₂ : Str} {px px₂ tp : Pos} {tk} {scope : Scope} {cl : List (Str × Addr)} {pos : Pos} {s₂ : Shared} {I : Addr} {fp wr : List Addr} {n : Nat} {Pt : Nat → Array Value → Prop} {St : Nat → Heap → Prop} {Mid : Nat → Addr → Heap → Prop} {RR : Value → Addr → Result → Shared → Prop}
    (W : WalksT prog w A I fp wr n Pt St Mid) (hsz : n ≤ sizeLine) (G : Nat → Value → Prop) (h2 : ∀ i vals, Pt i vals → ∃ v₁ v₂, vals = #[v₁, v₂])
    (hcell : ∀ y ∈ scope.names, y.2 ≠ .cell) (hkind : scope.kind = .function) (hx : scope.names.lookup x = some .local) (hx₂ : scope.names.lookup x₂ = some .local) (hxx : x ≠ x₂) (hh : A.handled = none)
    (hst : St 0 s₂.heap) (hfp : ∀ b ∈ fp, b < s₂.heap.objs.size)
    (helt : ∀ C i v₁ v₂ s₃ m₃ E', i < n → Pt i #[v₁, v₂] → s₃.heap.Ns C m₃ → m₃ x = some v₁ → m₃ x₂ = some v₂ → (∀ b o, b ∉ wr → s₂.heap.get? b = some o → s₃.heap.get? b = some o) →
      wpAny (model prog w) A (eval elt (compEnvC scope cl C env)) (fun y s₄ => G i y ∧ Keeps s₃ s₄) E' s₃)
    (hRR : ∀ D C h' tk m' ys, s₂.heap.get? D = none → s₂.heap.get? C = none → D ≠ C → h'.Ns C m' → h'.PlainList D ys → ys.size = n → (∀ j y, ys[j]? = some y → G j y) →
      (∀ b o, b ∉ wr → s₂.heap.get? b = some o → h'.get? b = some o) → RR (.ref D) C (.ok .next) { s₂ with heap := h', toks := tk }) :
    wpAny (model prog w) A (newList []) (fun acc s₃ => wpAny (model prog w) A (newFunctionEnv scope env.globals cl [] env.qual none .none (some env)) (fun cenv s₄ =>
      codeAny (model prog w) A (.compStart (.ListComp elt [⟨.Tuple [.Name x px, .Name x₂ px₂] tk tp, iter, [], 0⟩] scope pos) 0 (.ref I) acc { cenv with scope := relabel scope env }) (RR acc cenv.locals) s₄) E s₃) E s₂ := by
  refine wpAny_newObj_type (wpAny_newFunctionEnv hcell (by intro y hy; simp at hy) (fun h₁ hns₁ hsb₁ => ?_) hkind)
  dsimp only at hns₁ hsb₁ ⊢
  generalize hH2 : s₂.heap.push { cls := .type "list", dict := none, data := .seq ([] : List Value).toArray } = H2 at hns₁ hsb₁ ⊢
  have hC : H2.objs.size = s₂.heap.objs.size + 1 := by rw [← hH2, Heap.size_push]
  have hDC : s₂.heap.objs.size ≠ H2.objs.size := by rw [hC]; exact Nat.ne_of_lt (Nat.lt_succ_self _)
  have below : ∀ b, b < s₂.heap.objs.size → b ≠ H2.objs.size ∧ b ≠ s₂.heap.objs.size := fun b hb => ⟨by rw [hC]; exact Nat.ne_of_lt (Nat.lt_succ_of_lt hb), Nat.ne_of_lt hb⟩
  have hDf : s₂.heap.objs.size ∉ fp := fun hm => Nat.lt_irrefl _ (hfp _ hm)
  have hCf : H2.objs.size ∉ fp := fun hm => by have := hfp _ hm; rw [hC] at this; exact Nat.lt_irrefl _ (Nat.lt_of_succ_lt this)
  have old : ∀ b o, s₂.heap.get? b = some o → h₁.get? b = some o := fun b o e => hsb₁.extBut b o (below b (Heap.lt_size e)).1 (Heap.get?_push_of_some _ (hH2 ▸ Heap.get?_push_of_some _ e))
  have hacc : h₁.PlainList s₂.heap.objs.size #[] := ⟨_, hsb₁.extBut _ _ hDC (Heap.get?_push_of_some _ (hH2 ▸ Heap.get?_push_size _ rfl))⟩
  have hst₁ : St 0 h₁ := W.frame _ _ _ hst fun b _ o e => old b o e
  have fresh : ∀ a, s₂.heap.objs.size ≤ a → s₂.heap.get? a = none := fun a ha => by
    cases e : s₂.heap.get? a with
    | none => rfl
    | some o' => exact absurd (Heap.lt_size e) (Nat.not_lt.mpr ha)
  have hCw : H2.objs.size ∉ wr := fun h => hCf (W.sub _ h)
  have hDw : s₂.heap.objs.size ∉ wr := fun h => hDf (W.sub _ h)
  have loop : ∀ s₃ : Shared, s₃ = { s₂ with heap := h₁, toks := s₂.toks + ([] : List (Str × Value)).length } →
      codeAny (model prog w) A (.compLoop (.ListComp elt [⟨.Tuple [.Name x px, .Name x₂ px₂] tk tp, iter, [], 0⟩] scope pos) 0 (.ref I) (.ref s₂.heap.objs.size) (compEnvC scope cl H2.objs.size env))
        (RR (.ref s₂.heap.objs.size) H2.objs.size) s₃ := by
    rintro s₃ rfl
    refine LCp.codeAny_compLoop_pair
      (fun k s' => ∃ h' tk i ys m', s' = { s₂ with heap := h', toks := tk } ∧ i ≤ n ∧ k = n + 1 - i ∧ ys.size = i ∧ St i h' ∧ h'.Ns H2.objs.size m' ∧ h'.PlainList s₂.heap.objs.size ys ∧ (∀ j y, ys[j]? = some y → G j y) ∧
        (∀ b o, b ∉ wr → s₂.heap.get? b = some o → h'.get? b = some o)) ?_ (n + 1)
      ⟨h₁, _, 0, #[], _, rfl, Nat.zero_le _, rfl, rfl, hst₁, hns₁, hacc, fun j y e => by simp at e, fun b o _ e => old b o e⟩
    rintro k s' ⟨h', tk, i, ys, m', rfl, hi, rfl, hyl, hst', hn', hacc', hG, hk'⟩
    by_cases hlt : i < n
    · refine W.item i _ _ _ hlt hst' fun T vals h₂ tk₂ hPv _ hT₂ hM hk₂ => ?_
      obtain ⟨v₁, v₂, rfl⟩ := h2 _ _ hPv
      have hTw := W.apart _ _ _ hM
      refine W.go _ _ _ i T _ _ _ hM fun h₃ hst₃ hk₃ => ?_
      have hT₃ : IsTup h₃ T #[v₁, v₂] := hT₂.at fun o e => hk₃ T o hTw e
      have hn₃ : h₃.Ns H2.objs.size m' := hn'.at' fun o e => hk₃ _ o hCw (hk₂ _ o hCw e)
      refine assign_Tuple_tuple hh hT₃ rfl rfl fun h₅ he => ?_
      have he' : ∀ b o, h₃.get? b = some o → h₅.get? b = some o := fun b o e => he b o (Nat.ne_of_lt (Heap.lt_size e)) e
      refine assignInOrder_cons (wpAny_assign_Name (wpAny_storeName_local (lookup_relabel_local hx) (hn₃.at' fun o e => he' _ o e) (fun h₆ hn₆ hs₆ => ?_) (by simp [compEnvC, relabel, hkind])))
      refine assignInOrder_cons (wpAny_assign_Name (wpAny_storeName_local (lookup_relabel_local hx₂) hn₆ (fun h₇ hn₇ hs₇ => ?_) (by simp [compEnvC, relabel, hkind])))
      refine assignInOrder_nil ?_
      have up : ∀ b o, b ≠ H2.objs.size → h₃.get? b = some o → h₇.get? b = some o := fun b o hb e => hs₇.extBut b o hb (hs₆.extBut b o hb (he' b o e))
      have up' : ∀ b o, b ∉ wr → b ≠ H2.objs.size → h'.get? b = some o → h₇.get? b = some o := fun b o hw hb e => up b o hb (hk₃ b o hw (hk₂ b o hw e))
      have hst₇ : St (i + 1) h₇ := W.frame _ _ _ hst₃ fun b hb o e => up b o (fun q => hCf (q ▸ hb)) e
      refine wpAny_mono (helt _ i v₁ v₂ _ _ _ hlt hPv hn₇ (by simp [hxx]) (by simp) fun b o hw e => up' b o hw (below b (Heap.lt_size e)).1 (hk' b o hw e)) (fun y s₄ h₄ => ?_) fun _ _ e => e
      obtain ⟨hGy, h₈, tk₈, rfl, hk₈⟩ := h₄
      refine wpAny_list_append_plain (hsz := by rw [hyl]; exact Nat.le_trans hi hsz) (hacc'.at fun o e => hk₈ _ o (up' _ o hDw hDC e)) fun h₉ hl₉ hs₉ => ?_
      refine ⟨n + 1 - (i + 1), by omega, h₉, tk₈, i + 1, ys.push y, _, rfl, hlt, rfl, by rw [Array.size_push, hyl], W.frame _ _ _ hst₇ fun b hb o e => hs₉.extBut b o (fun q => hDf (q ▸ hb)) (hk₈ b o e), (hn₇.keeps hk₈).sameBut hs₉ (Ne.symm hDC), hl₉, fun j z e => ?_, fun b o hw e => ?_⟩
      · rw [Array.getElem?_push] at e
        split at e
        · rename_i q; rw [hyl] at q; subst q; cases e; exact hGy
        · exact hG j z e
      · exact hs₉.extBut b o (below b (Heap.lt_size e)).2 (hk₈ b o (up' b o hw (below b (Heap.lt_size e)).1 (hk' b o hw e)))
    · obtain rfl : i = n := Nat.le_antisymm hi (Nat.not_lt.mp hlt)
      refine W.done _ _ _ hst' fun h₂ tk₂ hk₂ => ?_
      exact hRR _ _ h₂ tk₂ m' ys (fresh _ (Nat.le_refl _)) (fresh _ (by rw [hC]; exact Nat.le_succ _)) hDC (hn'.at' fun o e => hk₂ _ o hCw e) (hacc'.at fun o e => hk₂ _ o hDw e) hyl hG fun b o hw e => hk₂ b o hw (hk' b o hw e)
  exact codeAny_compStart_list (loop _ rfl) (W.self 0 _ _ _ hst₁ (loop _ rfl))

noncomputable def CpSrc (prog : Program) (w : World) (A : Around) (E : Value → Shared → Prop) (env : Env) (elt : Expr) (x x₂ : Str) (scope : Scope) (cl : List (Str × Addr)) (Q : Value → Shared → Prop) (xv : Value) (s₁ : Shared) : Prop :=
  wpAny (model prog w) A (pyIter xv) (fun it s₂ => ∃ (I : Addr) (fp wr : List Addr) (n : Nat) (Pt : Nat → Array Value → Prop) (St : Nat → Heap → Prop) (Mid : Nat → Addr → Heap → Prop) (G : Nat → Value → Prop),
    it = .ref I ∧ WalksT prog w A I fp wr n Pt St Mid ∧ n ≤ sizeLine ∧ (∀ i vals, Pt i vals → ∃ v₁ v₂, vals = #[v₁, v₂]) ∧ A.handled = none ∧ St 0 s₂.heap ∧ (∀ b ∈ fp, b < s₂.heap.objs.size) ∧
    (∀ C i v₁ v₂ s₃ m₃ E', i < n → Pt i #[v₁, v₂] → s₃.heap.Ns C m₃ → m₃ x = some v₁ → m₃ x₂ = some v₂ → (∀ b o, b ∉ wr → s₂.heap.get? b = some o → s₃.heap.get? b = some o) →
      wpAny (model prog w) A (eval elt (compEnvC scope cl C env)) (fun y s₄ => G i y ∧ Keeps s₃ s₄) E' s₃) ∧
    (∀ D h' tk ys, s₂.heap.get? D = none → h'.PlainList D ys → ys.size = n → (∀ j y, ys[j]? = some y → G j y) → (∀ b o, b ∉ wr → s₂.heap.get? b = some o → h'.get? b = some o) → Q (.ref D) { s₂ with heap := h', toks := tk })) E s₁

theorem cp_ListComp {elt iter : Expr} {x x₂ : Str} {px px₂ tp : Pos} {tk} {scope : Scope} {cl : List (Str × Addr)} {pos : Pos} {Q : Value → Shared → Prop}
    (hclos : closureFor scope env = pure cl) (hcell : ∀ y ∈ scope.names, y.2 ≠ .cell) (hkind : scope.kind = .function)
    (hnames : ∀ y ∈ scope.names, y.2 = .local → scope.names.lookup y.1 = some .local) (hx : scope.names.lookup x = some .local) (hx₂ : scope.names.lookup x₂ = some .local) (hxx : x ≠ x₂)
    (h : wpAny (model prog w) A (eval iter env) (CpSrc prog w A E env elt x x₂ scope cl Q) E s)
    (hs : ∀ x, foldedSetIterable iter env x = pure x := by intro _; rfl) :
    wpAny (model prog w) A (eval (.ListComp elt [⟨.Tuple [.Name x px, .Name x₂ px₂] tk tp, iter, [], 0⟩] scope pos) env) Q E s := by
  rw [eval_ListComp]
  refine wpAny_comprehension_free (use := none) rfl hs hclos hkind hnames (wpAny_mono h (fun xv s₁ h₁ => ?_) fun _ _ e => e)
  refine wpAny_mono h₁ (fun it s₂ h₂ => ?_) fun _ _ e => e
  obtain ⟨I, fp, wr, n, Pt, St, Mid, G, rfl, W, hsz, h2, hh, hst, hfp, helt, fin⟩ := h₂
  refine cp_block W hsz G h2 hcell hkind hx hx₂ hxx hh hst hfp helt ?_
  intro D C h' tk m' ys hD hC hDC hn hl hn' hG hk
  refine ⟨m', hn, fun h'' hs'' => fin D h'' tk ys hD (hl.at fun o e => hs''.extBut _ _ hDC e) hn' hG fun b o hb e => hs''.extBut _ _ (fun q => ?_) (hk b o hb e)⟩
  rw [q, hC] at e; cases e

theorem cp_enum {elt : Expr} {x x₂ : Str} {scope : Scope} {cl : List (Str × Addr)} {Q : Value → Shared → Prop} {l : Addr} {vs : List Value} {ns : List Int} (g : Nat → Int → Int)
    (hh : A.handled = none) (hl : s.heap.IsList l vs.toArray) (hi : IntsAre vs ns) (hsz : ns.length ≤ sizeLine)
    (helt : ∀ C (i : Nat) t a u s₃ m₃ E', ns[i]? = some a → s₃.heap.Ns C m₃ → m₃ x = some (.int (i : Int) t) → m₃ x₂ = some (.int a u) → (∀ b o, s.heap.get? b = some o → s₃.heap.get? b = some o) →
      wpAny (model prog w) A (eval elt (compEnvC scope cl C env)) (fun y s₄ => (∃ t', y = .int (g i a) t') ∧ Keeps s₃ s₄) E' s₃)
    (fin : ∀ D ys X h' tk, (∀ b o, s.heap.get? b = some o → h'.get? b = some o) → s.heap.get? D = none → h'.PlainList D (List.toArray ys) → IntsAre ys X → X = (ns.zipIdx.map fun p => g p.2 p.1) → X.length = ns.length → Q (.ref D) { s with heap := h', toks := tk }) :
    wpAny (model prog w) A (call (.type "enumerate") [.ref l]) (CpSrc prog w A E env elt x x₂ scope cl Q) E s := by
  obtain ⟨ol, hol, _⟩ := id hl
  have hlt : @LT.lt Nat _ l s.heap.objs.size := Heap.lt_size hol
  refine call_enumerate_list hl fun h' he hit hsize hk => ?_
  have hl' : h'.IsList l vs.toArray := hl.at fun o e => hk l o e
  have n1 : @Ne Nat (s.heap.objs.size + 1) s.heap.objs.size := by omega
  have n2 : @Ne Nat l (s.heap.objs.size + 1) := by omega
  have n3 : @Ne Nat l s.heap.objs.size := by omega
  refine wpAny_pyIter_enum he ?_
  have up : ∀ {h'' : Heap}, (∀ b o, b ∉ [s.heap.objs.size + 1, s.heap.objs.size] → h'.get? b = some o → h''.get? b = some o) → ∀ b o, s.heap.get? b = some o → h''.get? b = some o := fun {h''} hk' b o e => by
    have hb : @LT.lt Nat _ b s.heap.objs.size := Heap.lt_size e
    refine hk' b o (fun hm => ?_) (hk b o e)
    simp only [List.mem_cons, List.not_mem_nil, or_false] at hm
    rcases hm with q | q <;> (have q : @Eq Nat _ _ := q; omega)
  have lenv : vs.toArray.size = ns.length := by simp [hi.length]
  refine ⟨_, _, _, _, _, _, _, (fun i y => ∃ a t', ns[i]? = some a ∧ y = .int (g i a) t'), rfl, WalksT.enumerate hh (s.heap.objs.size + 1) s.heap.objs.size l n1 n2 n3 vs.toArray, by rw [lenv]; exact hsz, ?_, hh, ⟨⟨_, he⟩, hit, hl'⟩, ?_, ?_, ?_⟩
  · rintro i vals ⟨t, y, _, rfl⟩; exact ⟨_, _, rfl⟩
  · intro b hb
    show @LT.lt Nat _ b h'.objs.size
    simp only [List.mem_cons, List.not_mem_nil, or_false] at hb
    rw [hsize]
    rcases hb with q | q | q <;> (have q : @Eq Nat _ _ := q; omega)
  · rintro C i v₁ v₂ s₃ m₃ E' hin ⟨t, y, hy, e⟩ hn h1 h2 hk₃
    obtain ⟨e1, e2⟩ : v₁ = .int (i : Int) t ∧ v₂ = y := by simpa using congrArg Array.toList e
    subst e1 e2
    obtain ⟨a, u, rfl, ha⟩ := hi.at i v₂ (by simpa using hy)
    exact wpAny_mono (helt C i t a u s₃ m₃ E' ha hn h1 h2 (up hk₃)) (fun y s₄ h₄ => ⟨⟨a, h₄.1.choose, ha, h₄.1.choose_spec⟩, h₄.2⟩) fun _ _ e => e
  · intro D h'' tk ys hD hpl hsz' hG hk'
    refine fin D ys.toList _ h'' tk (up hk') ?_ (by rw [Array.toArray_toList]; exact hpl) ?_ rfl (by simp)
    · cases q : s.heap.get? D with
      | none => rfl
      | some o => rw [hk _ _ q] at hD; cases hD
    · have key : ∀ (n : Nat) (vs : List Value) (ms : List Int), vs.length = ms.length → (∀ (j : Nat) v, vs[j]? = some v → ∃ a t', ms[j]? = some a ∧ v = .int (g (n + j) a) t') → IntsAre vs ((ms.zipIdx n).map fun p => g p.2 p.1) := by
        intro n vs
        induction vs generalizing n with
        | nil => intro ms hl _; cases ms with
          | nil => exact .nil
          | cons => simp at hl
        | cons v r ih =>
          intro ms hl h
          cases ms with
          | nil => simp at hl
          | cons a ms =>
            obtain ⟨a', t', ha, rfl⟩ := h 0 v rfl
            cases ha
            refine .cons _ _ (ih (n + 1) ms (by simpa using hl) fun j v hj => ?_)
            obtain ⟨b, u, hb, rfl⟩ := h (j + 1) v hj
            exact ⟨b, u, hb, by rw [show n + 1 + j = n + (j + 1) by omega]⟩
      refine key 0 ys.toList ns (by rw [Array.length_toList, hsz', lenv]) fun j v hj => ?_
      obtain ⟨a, t', ha, rfl⟩ := hG j v (by simpa using hj)
      exact ⟨a, t', ha, by rw [Nat.zero_add]⟩

end
local macro_rules | `(tactic| walk_at "eval ListComp") => `(tactic| (k_here; (with_reducible show wpAny _ _ (eval (Expr.ListComp _ [⟨Expr.Tuple [Expr.Name _ _, Expr.Name _ _] _ _, _, [], 0⟩] _ _) _) _ _ _); k_dflt (refine cp_ListComp (by with_unfolding_all rfl) (by decide) (by rfl) (by decide) (by rfl) (by rfl) (by decide) ?_)))
local macro_rules | `(tactic| walk_at "call type:enumerate") => `(tactic| (k_here; (with_reducible show wpAny _ _ (PySem.call (Value.type _) [Value.ref _]) _ _ _); k_dflt (k_extra "enum")))
local macro_rules | `(tactic| walk_at "p comped") => `(tactic| (intro D9 y9 X9 h9 tk9 g9 e9 p9 I9 eX9 lX9; (obtain ⟨n9, q9⟩ := p9); (have F9 := Fr.keeps (by k_asm) g9); (have N9 := news_new (by k_asm) (by k_asm) g9 q9 e9); (try k_sweep); (try dsimp only); (try k_fold)))

noncomputable def deriveL (ns : List Int) : List Int := (ns.zipIdx.map fun p => p.1 * (p.2 : Int)).drop 1
theorem Sml_nat {i : Nat} (h : i ≤ 64) : Sml (i : Int) := Nat.le_trans (PySem.intBits_le_64 (by omega) (by omega)) (by decide)
section
variable {prog : Program} {w : World} {A : Around} {E' : Value → Shared → Prop} {s₃ : Shared} {m₃ : Str → Option Value} {C : Addr}
theorem zderive_elt {env : Env} {scope : Scope} {cl : List (Str × Addr)} {p1 p2 p3 : Pos} {i : Nat} {a : Int} {t u : Tok} (hk : scope.kind = .function) (k1 : (compEnvC scope cl C env).kindOf (Str.ofString "power") = some .local) (k2 : (compEnvC scope cl C env).kindOf (Str.ofString "number") = some .local)
    (hn : s₃.heap.Ns C m₃) (h1 : m₃ (Str.ofString "power") = some (.int (i : Int) t)) (h2 : m₃ (Str.ofString "number") = some (.int a u)) (ha : Sml a) (hi : Sml (i : Int)) :
    wpAny (model prog w) A (eval (.BinOp (.Name (Str.ofString "number") p1) .Mult (.Name (Str.ofString "power") p2) p3) (compEnvC scope cl C env)) (fun y s₄ => (∃ t', y = .int (a * (i : Int)) t') ∧ Keeps s₃ s₄) E' s₃ :=
  wpAny_BinOp (wpAny_Name (wpAny_loadName_local hk k2 hn h2 (wpAny_Name (wpAny_loadName_local hk k1 hn h1 (PyProof.Rows.mul_int ⟨⟨_, rfl⟩, _, _, rfl, fun _ _ e => e⟩ (PySem.IntMulOk.of_bits ha hi))))))
end
set_option maxHeartbeats 8000000 in
theorem con_zderive (w : World) (l : Addr) (vs : List Value) (ns : List Int) (hi : IntsAre vs ns) (hlen : ns.length ≤ 64) (hs : SmlL ns) :
    PCon w 110 [.ref l] (fun h => h.IsList l vs.toArray) 1 (OutL (deriveL ns)) := by
  ((unfold PCon; intro dpq9 unq9 gdq9 cnq9 csq9 aq9 ccdq9 clq9 outerq9 A₀q9 baseq9 h₀q9 Lq9 mq9 sq9 pq9 looseq9 meanq9 mgq9 mbq9 Qq9 Eq9 Bq9 Fq9 Xq9 Tq9 hkq9 hpreq9 hdq9 huq9 hretq9; revert Bq9 Fq9 Xq9 Tq9 hkq9 hpreq9 hdq9 huq9 hretq9; k_fill; intro Bq9 Fq9 Xq9 Tq9 hkq9 hpreq9 hdq9 huq9 hretq9; refine wpAny_call ?_); k_dflt (first | (refine' code_p ?k1q28 ?k2q28 ?k3q28 ?k5q28 ?kAq28 ?kFq28 ?kKq28 ?k6q28 ?k7q28 ?k8q28 ?k9q28 ?kBq28 ?_ ?c2q28 ?c3q28 ?c4q28 ?c5q28; (case kAq28 => exact rfl); (case kFq28 => exact rfl); (case kKq28 => assumption); (case k1q28 => k_asm); (case k2q28 => k_asm); (case k3q28 => k_asm); (case k5q28 => k_asm); (case k6q28 => k_is); (case k7q28 => k_is); (case k8q28 => ktr_room); (case k9q28 => exact BindsTo.of_eq rfl); (case c5q28 => decide); (case kBq28 => exact locs rfl); (case c2q28 => exact rfl); (case c3q28 => exact rfl); (case c4q28 => exact rfl); k_whole; (rename Fr _ _ _ _ => kF0); clear kF0; (rename Frag.In _ _ => kF0); clear kF0;  (rename Top _ _ _ _ _ _ => kF0); clear kF0; (rename Below _ _ _ _ => kF0); clear kF0; intro L' h' F' N' B' X' T'; (try dsimp only); (try k_fold)) | (refine' code_pC ?k1q28 ?k2q28 ?k3q28 ?k5q28 ?kAq28 ?kFq28 ?kKq28 ?k6q28 ?k7q28 ?k8q28 ?k9q28 ?kBq28 ?kDq28 ?_ ?c2q28 ?c3q28 ?c4q28; (case kAq28 => exact rfl); (case kFq28 => exact rfl); (case kKq28 => assumption); (case k1q28 => k_asm); (case k2q28 => k_asm); (case k3q28 => k_asm); (case k5q28 => k_asm); (case k6q28 => k_is); (case k7q28 => k_is); (case k8q28 => ktr_room); (case k9q28 => exact BindsTo.of_eq rfl); (case kBq28 => exact rfl); (case kDq28 => decide +kernel); (case c2q28 => exact rfl); (case c3q28 => exact rfl); (case c4q28 => exact rfl); k_whole; (rename Fr _ _ _ _ => kF0); clear kF0; (rename Frag.In _ _ => kF0); clear kF0;  (rename Top _ _ _ _ _ _ => kF0); clear kF0; (rename Below _ _ _ _ => kF0); clear kF0; intro L' h' tk' cells' F' N' Y' B' X' T'; k_cells Y'; (try simp only [List.cons_append, List.nil_append] at N'); (try dsimp only); (try k_fold))))
  k_with_none
  k_with "enum" => (refine' cp_enum (fun i a => a * (i : Int)) (by rfl) (by is_list) hi (Nat.le_trans hlen (by decide)) (fun C i t a u s₃ m₃ E' ha hn h1 h2 _ => zderive_elt (by rfl) (by rfl) (by rfl) hn h1 h2 (hs _ (List.mem_of_getElem? ha)) (Sml_nat (Nat.le_trans (Nat.le_of_lt (List.getElem?_eq_some_iff.mp ha).1) hlen))) ?_; walk_at "p comped")
  k_steps
  all_goals ((try (k_unfold; (try dsimp only))); (try dsimp only); (try (k_unfold; (try dsimp only))); (first | ((rename (∀ r h' tk', Grows _ h' → OutL _ _ h' r → _) => hret9); (first | (refine' endL hret9 (by k_asm) (by k_asm) (by k_mem) (by assumption) ?_) | (refine' endL hret9 (by k_asm) (by k_asm) (by k_mem) IntsAre.nil ?_) | (refine' endP hret9 (by k_asm) (by assumption) (by assumption) (by assumption) ?_))) | ((rename (∀ r h' tk', Grows _ h' → OutI _ _ h' r → _) => hret9); (refine' endI hret9 (by k_asm) ?_))))
  (rename (_ = List.map _ _) => e); subst e; rfl
noncomputable abbrev BL (M : Nat) (ns : List Int) : Prop := ∀ x ∈ ns, Builtin.Int.intBits x ≤ M
theorem BL.mono {M N : Nat} {ns : List Int} (h : BL M ns) (hn : M ≤ N) : BL N ns := fun x hx => Nat.le_trans (h x hx) hn
theorem BL.cut {M : Nat} {ns : List Int} (h : BL M ns) (i : Nat) : Builtin.Int.intBits (cut ns i) ≤ M := by
  unfold Mine.cut
  by_cases hi : i < ns.length
  · have e : ns.getD i 0 = ns[i] := by simp [List.getD, hi]
    rw [e]; exact h _ (List.getElem_mem hi)
  · have e : ns.getD i 0 = 0 := by simp [List.getD, Nat.not_lt.mp hi]
    rw [e]; exact Nat.zero_le _
theorem BL.neg {M : Nat} {ns : List Int} (h : BL M ns) : BL M (pNeg ns) := fun x hx => by
  obtain ⟨y, hy, rfl⟩ := List.mem_map.mp hx
  exact bits_neg (h y hy)
theorem BL.scale {M K : Nat} {ns : List Int} {k : Int} (h : BL M ns) (hk : Builtin.Int.intBits k ≤ K) : BL (M + K) (pScale ns k) := fun x hx => by
  unfold pScale at hx; split at hx
  · cases hx
  · obtain ⟨y, hy, rfl⟩ := List.mem_map.mp hx
    exact bits_mul (h y hy) hk
theorem BL.raise {M n : Nat} {ns : List Int} (h : BL M ns) : BL M (pRaise ns n) := fun x hx => by
  unfold pRaise at hx; split at hx
  · cases hx
  · rcases List.mem_append.mp hx with hx | hx
    · rw [(List.mem_replicate.mp hx).2]; exact Nat.zero_le _
    · exact h x hx
theorem BL.sub {M N : Nat} {a b : List Int} (ha : BL M a) (hb : BL N b) : BL (max M N + 1) (pSub a b) := fun x hx => by
  have hx := trim_mem hx
  obtain ⟨i, _, rfl⟩ := List.mem_map.mp hx
  exact bits_add (ha.cut i) (hb.neg.cut i)
theorem BL.div {M : Nat} {ns : List Int} {d : Int} (h : BL M ns) : BL M (pDiv ns d) := fun x hx => by
  obtain ⟨y, hy, rfl⟩ := List.mem_map.mp hx
  exact bits_fdiv (h y hy)
theorem BL.sml {M : Nat} {ns : List Int} (h : BL M ns) (hM : M ≤ 1048576) : SmlL ns := fun x hx => Nat.le_trans (h x hx) hM
theorem BL.lead {M : Nat} {ns : List Int} (h : BL M ns) : Builtin.Int.intBits (lead ns) ≤ M := h.cut _

/-- the state of pseudo's loop -/
structure PsInv (a b R Fo : List Int) (many left : Int) : Prop where
  l0 : 0 ≤ left
  l1 : left ≤ many
  l2 : many ≤ 16
  len : (R.length : Int) - b.length + 1 ≤ left
  rl : R.length ≤ 16
  fl : Fo.length ≤ 16
  bR : BL (301 * ((many - left).toNat + 1)) R
  bF : BL (301 * ((many - left).toNat + 1)) Fo
  q : ∃ c, ∀ k, lead b ^ (many - left).toNat * cut a k = comb c (cut b) (a.length + 1 - b.length) k + cut R k
  tr : R = [] ∨ lead R ≠ 0

noncomputable def stepR (b R : List Int) : List Int := pSub (pScale R (lead b)) (pRaise (pScale b (lead R)) (R.length - b.length))
noncomputable def stepF (b R Fo : List Int) : List Int := pSub (pScale Fo (lead b)) (pRaise [- lead R] (R.length - b.length))

theorem stepR_len {b R : List Int} (hb : 0 < b.length) (h : b.length ≤ R.length) : (stepR b R).length ≤ R.length - 1 := by
  unfold stepR
  refine pSub_short fun i hi => ?_
  rw [cut_pScale, cut_pRaise]
  unfold shf
  rw [if_pos (by lia), cut_pScale]
  by_cases hi2 : i = R.length - 1
  · subst hi2
    have e : R.length - 1 - (R.length - b.length) = b.length - 1 := by lia
    rw [e]
    unfold lead
    rw [Int.mul_comm (cut b _)]
    lia
  · have h1 : R.length ≤ i := by lia
    rw [cut_high h1, cut_high (show b.length ≤ i - (R.length - b.length) by lia)]
    lia
theorem stepF_len {b R Fo : List Int} (h : R.length ≤ 16) (hb : 0 < b.length) (hF : Fo.length ≤ 16) : (stepF b R Fo).length ≤ 16 := by
  refine pSub_len (pScale_len hF) (pRaise_len ?_)
  simp; lia
theorem comb_add (c d : Nat → Int) (f : Nat → Int) (n k : Nat) : comb (fun i => c i + d i) f n k = comb c f n k + comb d f n k := by
  induction n with
  | zero => rfl
  | succ n ih => rw [comb, comb, comb, ih, Int.add_mul]; lia
theorem comb_mul (c : Nat → Int) (x : Int) (f : Nat → Int) (n k : Nat) : comb (fun i => x * c i) f n k = x * comb c f n k := by
  induction n with
  | zero => simp [comb]
  | succ n ih => rw [comb, comb, ih, Int.mul_add, Int.mul_assoc]
theorem comb_one (i : Nat) (x : Int) (f : Nat → Int) (n k : Nat) : comb (fun j => if j = i then x else 0) f n k = if i < n then x * shf i f k else 0 := by
  induction n with
  | zero => simp [comb]
  | succ n ih =>
    rw [comb, ih]
    by_cases h : n = i
    · subst h; simp
    · rw [if_neg h]
      by_cases h2 : i < n
      · rw [if_pos h2, if_pos (by lia)]; lia
      · rw [if_neg h2, if_neg (by lia)]; lia

theorem PsInv.turn {a b R Fo : List Int} {many left : Int} (I : PsInv a b R Fo many left) (hb : 0 < b.length) (bb : BL 300 b) (h : b.length ≤ R.length) (hRa : R.length ≤ a.length) : PsInv a b (stepR b R) (stepF b R Fo) many (left - 1) := by
  have hl := stepR_len hb h
  have i1 := I.l0
  have i2 := I.l1
  have i3 := I.len
  have i4 := I.rl
  have en : (many - (left - 1)).toNat = (many - left).toNat + 1 := by lia
  have bl := BL.lead bb
  refine ⟨by lia, by lia, I.l2, by lia, by lia, stepF_len I.rl hb I.fl, ?_, ?_, ?_, trim_lead _⟩
  · rw [en]
    have h1 := (I.bR.scale bl).sub ((bb.scale I.bR.lead).raise (n := R.length - b.length))
    exact h1.mono (by lia)
  · rw [en]
    have h1 := (I.bF.scale bl).sub ((show BL (301 * ((many - left).toNat + 1)) [- lead R] from fun x hx => by
      rw [List.mem_singleton.mp hx]; exact bits_neg I.bR.lead).raise (n := R.length - b.length))
    exact h1.mono (by lia)
  · obtain ⟨c, hc⟩ := I.q
    refine ⟨fun i => lead b * c i + (if i = R.length - b.length then lead R else 0), fun k => ?_⟩
    rw [en, comb_add, comb_mul, comb_one, if_pos (by lia)]
    unfold stepR
    rw [cut_pSub, cut_pScale, cut_pRaise]
    have e1 : shf (R.length - b.length) (cut (pScale b (lead R))) k = lead R * shf (R.length - b.length) (cut b) k := by
      unfold shf; split
      · rw [cut_pScale, Int.mul_comm]
      · simp
    rw [e1, Int.pow_succ]
    have := hc k
    grind
noncomputable def manyOf (a b : List Int) : Int := if (a.length : Int) - b.length + 1 > 0 then (a.length : Int) - b.length + 1 else 0
structure IsPrem (a b R : List Int) : Prop where
  len : R.length < b.length
  bits : BL 20000 R
  q : ∃ c, ∀ k, lead b ^ (manyOf a b).toNat * cut a k = comb c (cut b) (a.length + 1 - b.length) k + cut R k
  tr : R = [] ∨ lead R ≠ 0
theorem PsInv.start {a b : List Int} (h1 : a.length ≤ 16) (h0 : 0 < b.length) (ha : BL 300 a) (hta : lead a ≠ 0) : PsInv a b a [] (manyOf a b) (manyOf a b) := by
  have e : manyOf a b - manyOf a b = 0 := Int.sub_self _
  have h : 0 ≤ manyOf a b ∧ manyOf a b ≤ 16 ∧ (a.length : Int) - b.length + 1 ≤ manyOf a b := by
    unfold manyOf; split <;> lia
  refine ⟨h.1, by lia, h.2.1, h.2.2, h1, by simp, ?_, ?_, ⟨fun _ => 0, fun k => ?_⟩, .inr hta⟩
  · rw [e]; exact ha.mono (by decide)
  · intro x hx; cases hx
  · rw [e]
    have : ∀ n, comb (fun _ => 0) (cut b) n k = 0 := fun n => by
      induction n with
      | zero => rfl
      | succ n ih => rw [comb, ih]; simp
    rw [this]; simp

theorem lead_pScale {R : List Int} {x : Int} (h : lead R ≠ 0) (hx : x ≠ 0) : lead (pScale R x) ≠ 0 := by
  have e : (pScale R x).length = R.length := by unfold pScale; rw [if_neg hx]; simp
  unfold lead at h ⊢
  rw [e, cut_pScale]
  exact Int.mul_ne_zero h hx
theorem PsInv.fin {a b R Fo : List Int} {left : Int} (I : PsInv a b R Fo (manyOf a b) left) (bb : BL 300 b) (htb : lead b ≠ 0) (h : R.length < b.length) : IsPrem a b (pScale R (lead b ^ left.toNat)) := by
  have i1 := I.l0
  have i2 := I.l1
  have i3 := I.l2
  refine ⟨Nat.lt_of_le_of_lt (pScale_len (Nat.le_refl _)) h, (I.bR.scale (PySem.intBits_pow_le bb.lead left.toNat)).mono (by lia), ?_, ?_⟩
  rotate_left
  · rcases I.tr with e | e
    · subst e; left; unfold pScale; split <;> rfl
    · right; exact lead_pScale e (Int.pow_ne_zero htb)
  obtain ⟨c, hc⟩ := I.q
  refine ⟨fun i => lead b ^ left.toNat * c i, fun k => ?_⟩
  rw [comb_mul, cut_pScale]
  have e : (manyOf a b).toNat = left.toNat + (manyOf a b - left).toNat := by lia
  rw [e, Int.pow_add, Int.mul_assoc, hc k, Int.mul_add, Int.mul_comm (cut R k)]
section
variable {w : World} {f : Addr} {args : List Value} {Pre : Heap → Prop} {D : Nat} {dp un : Nat} {gd : Option (List Code)} {cn : Str} {cs : Scope} {a : Addr} {ccd : Value} {cl : List (Str × Addr)} {outer : List Env} {A₀ : Around} {base h₀ : Heap} {L : Addr} {m : Str → Option Value} {s : Shared}
    {p : Program} {loose : List Str} {mean : ExcName → Option Value} {mg mb : Str → Option Value} {Q E : Value → Shared → Prop} {news : List (Addr × Obj)} {ns : List Int} {x : Int}
theorem PCon.useN (C : PCon w f args Pre D (fun _ _ r => r = .none)) (B : Below A₀ base outer h₀) (F : Fr h₀ L s.heap m) (X : (hd0.heap_1 w.params).In h₀) (N : News h₀ L s.heap news) (T : Top p loose mean mg mb h₀) (hk : cs.kind = .function) (hpre : Pre s.heap)
    (hd : dp + D < recursionLimit) (hu : un + 8 * D < cLine)
    (ret : ∀ h' tk', Fr h₀ L h' m → News h₀ L h' news → Q .none { s with heap := h', toks := tk' }) :
    wpAny (model PySem.Challenge.rw_sa0085_01.row.prog w) (ktrTop dp un gd cn cs L a ccd cl outer) (call (.ref f) args) Q E s :=
  C _ _ _ _ _ _ _ _ _ _ _ _ _ _ _ _ _ _ _ _ _ _ B F X T hk hpre hd hu fun r h' tk' g o => by
    subst o
    exact ret h' tk' (F.keeps g) (N.grown g)
end
local macro_rules | `(tactic| walk_at "p afterN") => `(tactic| (k_whole; intro h9 tk9 F9 N9; (try dsimp only); (try k_sweep); (try k_fold)))
local macro_rules | `(tactic| walk_at "call ref") => `(tactic| (k_here; k_dflt (refine' PCon.useI (con_zlead _ _ _ _ ?hi ?hlen) ?k1 ?k2 ?k3 ?k4 ?k5 ?kK ?pre ?kd ?ku ?_; (case pre => walk_at "p list"); (case hi => walk_at "p ints"); (case hlen => walk_at "p len"); walk_at "p sides"); walk_at "p afterI"))
local macro_rules | `(tactic| walk_at "call ref") => `(tactic| (k_here; k_dflt (refine' PCon.useN (con_check _ _ _ _ ?hi ?hlen ?h0) ?k1 ?k2 ?k3 ?k4 ?k5 ?kK ?pre ?kd ?ku ?_; (case pre => walk_at "p list"); (case hi => walk_at "p ints"); (case hlen => walk_at "p len"); (case h0 => omega); walk_at "p sides"); walk_at "p afterN"))
local macro_rules | `(tactic| walk_at "call ref") => `(tactic| (k_here; k_dflt (refine' PCon.useL (con_zscale _ _ _ _ _ _ ?hi ?hlen ?hs ?hk) ?k1 ?k2 ?k3 ?k4 ?k5 ?kK ?pre ?kd ?ku ?_; (case pre => walk_at "p list"); (case hi => walk_at "p ints"); (case hlen => walk_at "p len"); (case hs => walk_at "p small"); (case hk => walk_at "p small"); walk_at "p sides"); walk_at "p afterL"))
local macro_rules | `(tactic| walk_at "call ref") => `(tactic| (k_here; k_dflt (refine' PCon.useL (con_zraise _ _ _ _ ?hi ?hlen _ _ ?hk ?hk1) ?k1 ?k2 ?k3 ?k4 ?k5 ?kK ?pre ?kd ?ku ?_; (case pre => walk_at "p list"); (case hi => walk_at "p ints"); (case hlen => walk_at "p len"); (case hk => omega); (case hk1 => omega); walk_at "p sides"); walk_at "p afterL"))
local macro_rules | `(tactic| walk_at "call ref") => `(tactic| (k_here; k_dflt (refine' PCon.useL (con_zsub _ _ _ _ ?hi ?hlen _ _ _ ?hi1 ?hlen1) ?k1 ?k2 ?k3 ?k4 ?k5 ?kK (And.intro ?pre ?pre1) ?kd ?ku ?_; (case pre => walk_at "p list"); (case pre1 => walk_at "p list"); (case hi => walk_at "p ints"); (case hi1 => walk_at "p ints"); (case hlen => walk_at "p len"); (case hlen1 => walk_at "p len"); walk_at "p sides"); walk_at "p afterL"))
local macro_rules | `(tactic| walk_at "exec") => `(tactic| (k_here; (with_reducible show wpAny _ _ (exec (Stmt.While _ _ [] _) _) _ _ _); k_dflt (k_extra "while")))


noncomputable def OutPs (a b : List Int) (g h : Heap) (r : Value) : Prop := ∃ d n f vf nf Fo e ve ne R t, r = .ref d ∧ h.get? d = some ({ cls := .type "tuple", data := .seq #[.ref f, .ref e, .int (manyOf a b) t] n } : Obj) ∧ g.get? d = none ∧
  h.get? f = some (listOf (List.toArray vf) nf) ∧ g.get? f = none ∧ IntsAre vf Fo ∧ h.get? e = some (listOf (List.toArray ve) ne) ∧ g.get? e = none ∧ IntsAre ve R ∧ IsPrem a b R
theorem endPs {s : Shared} {L : Addr} {h : Heap} {m : Str → Option Value} {news : List (Addr × Obj)} {D f e : Addr} {n nf ne : Nat} {vf ve : List Value} {Fo R a b : List Int} {t : Tok} {x : Int} {Q : Value → Shared → Prop} {tk : Nat}
    (hret : ∀ r h' tk', Grows s.heap h' → OutPs a b s.heap h' r → Q r { s with heap := h', toks := tk' }) (F : Fr s.heap L h m) (N : News s.heap L h news) (hm : (D, ({ cls := .type "tuple", data := .seq #[.ref f, .ref e, .int x t] n } : Obj)) ∈ news)
    (hf : (f, listOf (List.toArray vf) nf) ∈ news) (he : (e, listOf (List.toArray ve) ne) ∈ news) (hi : IntsAre vf Fo) (hi2 : IntsAre ve R) (hx : x = manyOf a b) (hP : IsPrem a b R) :
    Q (.ref D) { s with heap := h, toks := tk } := by
  subst hx
  exact hret _ _ _ F.keep ⟨D, n, f, vf, nf, Fo, e, ve, ne, R, t, rfl, (N _ hm).1, (N _ hm).2.2, (N _ hf).1, (N _ hf).2.2, hi, (N _ he).1, (N _ he).2.2, hi2, hP⟩
structure PsS where
  rA : Addr
  vr : List Value
  nr : Nat
  R : List Int
  fA : Addr
  vf : List Value
  nf : Nat
  Fo : List Int
  left : Int
  lt : Tok
theorem mem3 {α : Type} {P : α → Prop} {x y z : α} (hx : P x) (hy : P y) (hz : P z) : ∀ p ∈ [x, y, z], P p := fun p hp => by
  simp only [List.mem_cons, List.not_mem_nil, or_false] at hp
  rcases hp with rfl | rfl | rfl <;> assumption
theorem mem2 {α : Type} {P : α → Prop} {x y : α} (hx : P x) (hy : P y) : ∀ p ∈ [x, y], P p := fun p hp => by
  simp only [List.mem_cons, List.not_mem_nil, or_false] at hp
  rcases hp with rfl | rfl <;> assumption

theorem pRaise_len64 {a : List Int} {k : Nat} (ha : a.length ≤ 32) (hk : k ≤ 32) : (pRaise a k).length ≤ 64 := pRaise_len (by omega)
local macro_rules | `(tactic| walk_at "p len") => `(tactic| ((with_reducible refine pRaise_len64 ?_ ?_) <;> walk_at "p len"))
theorem ps_end {a b R Fo : List Int} {left : Int} {x y : List Int} {n p : Int} (I : PsInv a b R Fo (manyOf a b) left) (hb : 0 < b.length) (bb : BL 300 b) (h : (b.length : Int) ≤ R.length) (hRa : R.length ≤ a.length)
    (hn : n = R.getD (-1 + (R.length : Int)).toNat 0) (hp : p = (R.length : Int) - b.length) (hx : x = pSub (pScale R (lead b)) (pRaise (pScale b n) p.toNat)) (hy : y = pSub (pScale Fo (lead b)) (pRaise [-n] p.toNat)) :
    (PsInv a b x y (manyOf a b) (left - 1) ∧ x.length ≤ a.length) ∧ x.length < R.length := by
  have e1 : n = lead R := hn.trans (lead_a rfl (by omega))
  have e2 : p.toNat = R.length - b.length := by omega
  rw [e1, e2] at hx hy
  subst hx hy
  have := stepR_len hb (show b.length ≤ R.length by omega)
  have h2 : (pSub (pScale R (lead b)) (pRaise (pScale b (lead R)) (R.length - b.length))).length ≤ R.length - 1 := this
  exact ⟨⟨I.turn hb bb (by omega) hRa, by omega⟩, by omega⟩
set_option maxHeartbeats 8000000 in
theorem con_pseudo (w : World) (l : Addr) (vs : List Value) (a : List Int) (hi : IntsAre vs a) (hlen : a.length ≤ 16) (l1 : Addr) (vs1 : List Value) (b : List Int) (hi1 : IntsAre vs1 b) (hlen1 : b.length ≤ 16) (h0 : 0 < b.length)
    (ba : BL 300 a) (bb : BL 300 b) (hta : lead a ≠ 0) (htb : lead b ≠ 0) :
    PCon w 124 [.ref l, .ref l1] (fun h => h.IsList l vs.toArray ∧ h.IsList l1 vs1.toArray) 5 (OutPs a b) := by
  have ha : SmlL a := ba.sml (by decide)
  have hb : SmlL b := bb.sml (by decide)
  have hlb : Sml (lead b) := Nat.le_trans bb.lead (by decide)
  ((unfold PCon; intro dpq9 unq9 gdq9 cnq9 csq9 aq9 ccdq9 clq9 outerq9 A₀q9 baseq9 h₀q9 Lq9 mq9 sq9 pq9 looseq9 meanq9 mgq9 mbq9 Qq9 Eq9 Bq9 Fq9 Xq9 Tq9 hkq9 hpreq9 hdq9 huq9 hretq9; revert Bq9 Fq9 Xq9 Tq9 hkq9 hpreq9 hdq9 huq9 hretq9; k_fill; intro Bq9 Fq9 Xq9 Tq9 hkq9 hpreq9 hdq9 huq9 hretq9; refine wpAny_call ?_); k_dflt (first | (refine' code_p ?k1q30 ?k2q30 ?k3q30 ?k5q30 ?kAq30 ?kFq30 ?kKq30 ?k6q30 ?k7q30 ?k8q30 ?k9q30 ?kBq30 ?_ ?c2q30 ?c3q30 ?c4q30 ?c5q30; (case kAq30 => exact rfl); (case kFq30 => exact rfl); (case kKq30 => assumption); (case k1q30 => k_asm); (case k2q30 => k_asm); (case k3q30 => k_asm); (case k5q30 => k_asm); (case k6q30 => k_is); (case k7q30 => k_is); (case k8q30 => ktr_room); (case k9q30 => exact BindsTo.of_eq rfl); (case c5q30 => decide); (case kBq30 => exact locs rfl); (case c2q30 => exact rfl); (case c3q30 => exact rfl); (case c4q30 => exact rfl); k_whole; (rename Fr _ _ _ _ => kF0); clear kF0; (rename Frag.In _ _ => kF0); clear kF0;  (rename Top _ _ _ _ _ _ => kF0); clear kF0; (rename Below _ _ _ _ => kF0); clear kF0; intro L' h' F' N' B' X' T'; (try dsimp only); (try k_fold)) | (refine' code_pC ?k1q30 ?k2q30 ?k3q30 ?k5q30 ?kAq30 ?kFq30 ?kKq30 ?k6q30 ?k7q30 ?k8q30 ?k9q30 ?kBq30 ?kDq30 ?_ ?c2q30 ?c3q30 ?c4q30; (case kAq30 => exact rfl); (case kFq30 => exact rfl); (case kKq30 => assumption); (case k1q30 => k_asm); (case k2q30 => k_asm); (case k3q30 => k_asm); (case k5q30 => k_asm); (case k6q30 => k_is); (case k7q30 => k_is); (case k8q30 => ktr_room); (case k9q30 => exact BindsTo.of_eq rfl); (case kBq30 => exact rfl); (case kDq30 => decide +kernel); (case c2q30 => exact rfl); (case c3q30 => exact rfl); (case c4q30 => exact rfl); k_whole; (rename Fr _ _ _ _ => kF0); clear kF0; (rename Frag.In _ _ => kF0); clear kF0;  (rename Top _ _ _ _ _ _ => kF0); clear kF0; (rename Below _ _ _ _ => kF0); clear kF0; intro L' h' tk' cells' F' N' Y' B' X' T'; k_cells Y'; (try simp only [List.cons_append, List.nil_append] at N'); (try dsimp only); (try k_fold))))
  k_with_none
  k_with "while" =>
    (rename Fr _ _ _ _ => lF')
    (rename News _ _ _ _ => lN')
    refine' ksw_while (σ := PsS) (fun c => [(c.rA, listOf (List.toArray c.vr) c.nr), (c.fA, listOf (List.toArray c.vf) c.nf)]) (fun c => [(Str.ofString "rest", .ref c.rA), (Str.ofString "found", .ref c.fA), (Str.ofString "left", .int c.left c.lt)]) (fun c => IntsAre c.vr c.R ∧ IntsAre c.vf c.Fo) [Str.ofString "number", Str.ofString "power"]
      (fun c => PsInv a b c.R c.Fo (manyOf a b) c.left ∧ c.R.length ≤ a.length) (fun c => c.R.length) ⟨_, vs, _, a, _, [], 0, [], manyOf a b, _⟩ lF' ?kn ⟨hi, IntsAre.nil⟩ ?kk ⟨PsInv.start hlen h0 ba hta, Nat.le_refl _⟩ ?_
    case kk =>
      refine mem3 ?k1 ?k2 ?k3
      case k1 => exact rfl
      case k2 => exact rfl
      case k3 => dsimp only; unfold manyOf; first | exact rfl | with_unfolding_all rfl
    case kn => exact mem2 (lN' _ (by k_mem)) (lN' _ (by k_mem))
    clear lF' lN'
    intro c u h tk hf hp F N
    obtain ⟨rA, vr, nr, R, fA, vf, nf, Fo, left, lt⟩ := c
    obtain ⟨hiR, hiF⟩ := hf
    obtain ⟨hI, hRa⟩ := hp
    dsimp only [kstB] at F N hiR hiF hI hRa ⊢
    have i1 := hI.l0
    have i2 := hI.l1
    have i3 := hI.l2
    have i4 := hI.len
    have i5 := hI.rl
    have i6 := hI.fl
    have hsR : SmlL R := hI.bR.sml (by omega)
    have hsF : SmlL Fo := hI.bF.sml (by omega)
    have hpw : Sml (lead b ^ left.toNat) := Nat.le_trans (PySem.intBits_pow_le bb.lead left.toNat) (by omega)
    (try k_fold)
  (rename _ ∧ _ => hp9; obtain ⟨hp8, hp9⟩ := hp9)
  k_steps
  · refine' ksw_end (σ := PsS) ⟨?a1, ?a2, ?a3, ?a4, ?a5, ?a6, ?a7, ?a8, ?a9, ?a10⟩ (by k_asm) (by k_asm) ?hn ?hf ?hk ?hr ?hp ?hm
    case hk =>
      refine mem3 ?k1 ?k2 ?k3
      case k1 => dsimp only; exact rfl
      case k2 => dsimp only; exact rfl
      case k3 => dsimp only; exact rfl
    case hn =>
      refine mem2 ?k1 ?k2
      case k1 => dsimp only; k_mem
      case k2 => dsimp only; k_mem
    case hf => exact ⟨by walk_at "p ints", by walk_at "p ints"⟩
    case hr => ksw_same
    case hp => exact (ps_end hI h0 bb (by assumption) hRa rfl rfl rfl rfl).1
    case hm => exact (ps_end hI h0 bb (by assumption) hRa rfl rfl rfl rfl).2
  · (try (k_unfold; (try dsimp only)))
    (try (k_unfold; (try dsimp only)))
    (rename (∀ r h' tk', Grows _ h' → OutPs _ _ _ h' r → _) => hret9)
    have hend := fun L h m news D f e n nf ne vf ve Fo R t x tk => @endPs _ L h m news D f e n nf ne vf ve Fo R _ _ t x _ tk hret9
    refine' hend _ _ _ _ _ _ _ _ _ _ _ _ _ _ _ _ _ ?kF ?kN ?m1 ?m2 ?m3 ?zi1 ?zi2 ?zx ?zp
    case kF => k_asm
    case kN => k_asm
    case m1 => k_mem
    case m2 => k_mem
    case m3 => k_mem
    case zi1 => walk_at "p ints"
    case zi2 => walk_at "p ints"
    case zx => rfl
    case zp => exact hI.fin bb htb (by omega)
noncomputable def OutE (P : List Int → Prop) (g h : Heap) (r : Value) : Prop := ∃ ns, P ns ∧ OutL ns g h r
section
variable {w : World} {f : Addr} {args : List Value} {Pre : Heap → Prop} {D : Nat} {dp un : Nat} {gd : Option (List Code)} {cn : Str} {cs : Scope} {a : Addr} {ccd : Value} {cl : List (Str × Addr)} {outer : List Env} {A₀ : Around} {base h₀ : Heap} {L : Addr} {m : Str → Option Value} {s : Shared}
    {p : Program} {loose : List Str} {mean : ExcName → Option Value} {mg mb : Str → Option Value} {Q E : Value → Shared → Prop} {news : List (Addr × Obj)} {na nb : List Int} {P : List Int → Prop}
theorem PCon.usePs (C : PCon w f args Pre D (OutPs na nb)) (B : Below A₀ base outer h₀) (F : Fr h₀ L s.heap m) (X : (hd0.heap_1 w.params).In h₀) (N : News h₀ L s.heap news) (T : Top p loose mean mg mb h₀) (hk : cs.kind = .function) (hpre : Pre s.heap)
    (hd : dp + D < recursionLimit) (hu : un + 8 * D < cLine)
    (ret : ∀ d n f vf nf Fo e ve ne R t h' tk', Fr h₀ L h' m → News h₀ L h' ((d, ({ cls := .type "tuple", data := .seq #[.ref f, .ref e, .int (manyOf na nb) t] n } : Obj)) :: (f, listOf (List.toArray vf) nf) :: (e, listOf (List.toArray ve) ne) :: news) → IntsAre vf Fo → IntsAre ve R → IsPrem na nb R → Q (.ref d) { s with heap := h', toks := tk' }) :
    wpAny (model PySem.Challenge.rw_sa0085_01.row.prog w) (ktrTop dp un gd cn cs L a ccd cl outer) (call (.ref f) args) Q E s :=
  C _ _ _ _ _ _ _ _ _ _ _ _ _ _ _ _ _ _ _ _ _ _ B F X T hk hpre hd hu fun r h' tk' g o => by
    obtain ⟨d, n, f, vf, nf, Fo, e, ve, ne, R, t, rfl, h1, h2, h3, h4, h5, h6, h7, h8, h9⟩ := o
    have N1 := news_new F N g h6 h7
    have N2 := news_new F N g h3 h4
    have N3 := news_new F N g h1 h2
    refine ret d n f vf nf Fo e ve ne R t h' tk' (F.keeps g) (fun q hq => ?_) h5 h8 h9
    rcases List.mem_cons.mp hq with rfl | hq
    · exact N3 _ (.head _)
    · rcases List.mem_cons.mp hq with rfl | hq
      · exact N2 _ (.head _)
      · exact N1 _ hq
theorem PCon.useE (C : PCon w f args Pre D (OutE P)) (B : Below A₀ base outer h₀) (F : Fr h₀ L s.heap m) (X : (hd0.heap_1 w.params).In h₀) (N : News h₀ L s.heap news) (T : Top p loose mean mg mb h₀) (hk : cs.kind = .function) (hpre : Pre s.heap)
    (hd : dp + D < recursionLimit) (hu : un + 8 * D < cLine)
    (ret : ∀ d vs n ns h' tk', Fr h₀ L h' m → News h₀ L h' ((d, listOf (List.toArray vs) n) :: news) → IntsAre vs ns → P ns → Q (.ref d) { s with heap := h', toks := tk' }) :
    wpAny (model PySem.Challenge.rw_sa0085_01.row.prog w) (ktrTop dp un gd cn cs L a ccd cl outer) (call (.ref f) args) Q E s :=
  C _ _ _ _ _ _ _ _ _ _ _ _ _ _ _ _ _ _ _ _ _ _ B F X T hk hpre hd hu fun r h' tk' g o => by
    obtain ⟨ns, hP, d, vs, n, rfl, h1, h2, h3⟩ := o
    exact ret d vs n ns h' tk' (F.keeps g) (news_new F N g h1 h2) h3 hP
end
theorem endE {s : Shared} {L : Addr} {h : Heap} {m : Str → Option Value} {news : List (Addr × Obj)} {D : Addr} {vs : List Value} {n : Nat} {X : List Int} {Q : Value → Shared → Prop} {tk : Nat} {P : List Int → Prop}
    (hret : ∀ r h' tk', Grows s.heap h' → OutE P s.heap h' r → Q r { s with heap := h', toks := tk' }) (F : Fr s.heap L h m) (N : News s.heap L h news) (hm : (D, listOf (List.toArray vs) n) ∈ news) (hi : IntsAre vs X) (e : P X) :
    Q (.ref D) { s with heap := h, toks := tk } := hret _ _ _ F.keep ⟨X, e, D, vs, n, rfl, (N _ hm).1, (N _ hm).2.2, hi⟩
local macro_rules | `(tactic| walk_at "p afterPs") => `(tactic| (k_whole; intro d9 n9 f9 vf9 nf9 Fo9 e9 ve9 ne9 R9 t9 h9 tk9 F9 N9 If9 Ie9 P9; (have PL9 := P9.len); (have SL9 := P9.bits.sml (by decide)); (try dsimp only); (try k_sweep); (try k_fold)))
local macro_rules | `(tactic| walk_at "p afterE") => `(tactic| (k_whole; intro d9 v9 n9 R9 h9 tk9 F9 N9 I9 P9; (try dsimp only); (try k_sweep); (try k_fold)))
local macro_rules | `(tactic| walk_at "call ref") => `(tactic| (k_here; k_dflt (refine' PCon.useI (con_zdegree _ _ _ _ ?hi ?hlen) ?k1 ?k2 ?k3 ?k4 ?k5 ?kK ?pre ?kd ?ku ?_; (case pre => walk_at "p list"); (case hi => walk_at "p ints"); (case hlen => walk_at "p len"); walk_at "p sides"); walk_at "p afterI"))
local macro_rules | `(tactic| walk_at "call ref") => `(tactic| (k_here; k_dflt (refine' PCon.usePs (con_pseudo _ _ _ _ ?hi ?hlen _ _ _ ?hi1 ?hlen1 ?h0 ?ba ?bb ?hta ?htb) ?k1 ?k2 ?k3 ?k4 ?k5 ?kK (And.intro ?pre ?pre1) ?kd ?ku ?_; (case pre => walk_at "p list"); (case pre1 => walk_at "p list"); (case hi => walk_at "p ints"); (case hi1 => walk_at "p ints"); (case hlen => walk_at "p len"); (case hlen1 => walk_at "p len"); (case h0 => omega); (case ba => assumption); (case bb => assumption); (case hta => assumption); (case htb => assumption); walk_at "p sides"); walk_at "p afterPs"))

theorem small_pow0 {x z : Int} (h : z ≤ 0) : Sml (x ^ z.toNat) := by
  have : z.toNat = 0 := by omega
  rw [this, Int.pow_zero]; decide
local macro_rules | `(tactic| walk_at "p small") => `(tactic| ((with_reducible refine small_pow0 ?_); omega))
theorem full_end {R : List Int} {x z : Int} (h : z ≤ 0) : R.map (fun c => c * x ^ z.toNat) = R := by
  have : z.toNat = 0 := by omega
  rw [this]; simp
theorem manyOf_eq {a b : List Int} (h : b.length ≤ a.length) : manyOf a b = (a.length : Int) - b.length + 1 := by
  unfold manyOf; split <;> omega
set_option maxHeartbeats 8000000 in
theorem con_full (w : World) (l : Addr) (vs : List Value) (a : List Int) (hi : IntsAre vs a) (hlen : a.length ≤ 16) (l1 : Addr) (vs1 : List Value) (b : List Int) (hi1 : IntsAre vs1 b) (hlen1 : b.length ≤ 16) (h0 : 0 < b.length) (hle : b.length ≤ a.length)
    (ba : BL 300 a) (bb : BL 300 b) (hta : lead a ≠ 0) (htb : lead b ≠ 0) :
    PCon w 134 [.ref l, .ref l1] (fun h => h.IsList l vs.toArray ∧ h.IsList l1 vs1.toArray) 6 (OutE (IsPrem a b)) := by
  have hlb : Sml (lead b) := Nat.le_trans bb.lead (by decide)
  have hmo := manyOf_eq hle
  ((unfold PCon; intro dpq9 unq9 gdq9 cnq9 csq9 aq9 ccdq9 clq9 outerq9 A₀q9 baseq9 h₀q9 Lq9 mq9 sq9 pq9 looseq9 meanq9 mgq9 mbq9 Qq9 Eq9 Bq9 Fq9 Xq9 Tq9 hkq9 hpreq9 hdq9 huq9 hretq9; revert Bq9 Fq9 Xq9 Tq9 hkq9 hpreq9 hdq9 huq9 hretq9; k_fill; intro Bq9 Fq9 Xq9 Tq9 hkq9 hpreq9 hdq9 huq9 hretq9; refine wpAny_call ?_); k_dflt (first | (refine' code_p ?k1q32 ?k2q32 ?k3q32 ?k5q32 ?kAq32 ?kFq32 ?kKq32 ?k6q32 ?k7q32 ?k8q32 ?k9q32 ?kBq32 ?_ ?c2q32 ?c3q32 ?c4q32 ?c5q32; (case kAq32 => exact rfl); (case kFq32 => exact rfl); (case kKq32 => assumption); (case k1q32 => k_asm); (case k2q32 => k_asm); (case k3q32 => k_asm); (case k5q32 => k_asm); (case k6q32 => k_is); (case k7q32 => k_is); (case k8q32 => ktr_room); (case k9q32 => exact BindsTo.of_eq rfl); (case c5q32 => decide); (case kBq32 => exact locs rfl); (case c2q32 => exact rfl); (case c3q32 => exact rfl); (case c4q32 => exact rfl); k_whole; (rename Fr _ _ _ _ => kF0); clear kF0; (rename Frag.In _ _ => kF0); clear kF0;  (rename Top _ _ _ _ _ _ => kF0); clear kF0; (rename Below _ _ _ _ => kF0); clear kF0; intro L' h' F' N' B' X' T'; (try dsimp only); (try k_fold)) | (refine' code_pC ?k1q32 ?k2q32 ?k3q32 ?k5q32 ?kAq32 ?kFq32 ?kKq32 ?k6q32 ?k7q32 ?k8q32 ?k9q32 ?kBq32 ?kDq32 ?_ ?c2q32 ?c3q32 ?c4q32; (case kAq32 => exact rfl); (case kFq32 => exact rfl); (case kKq32 => assumption); (case k1q32 => k_asm); (case k2q32 => k_asm); (case k3q32 => k_asm); (case k5q32 => k_asm); (case k6q32 => k_is); (case k7q32 => k_is); (case k8q32 => ktr_room); (case k9q32 => exact BindsTo.of_eq rfl); (case kBq32 => exact rfl); (case kDq32 => decide +kernel); (case c2q32 => exact rfl); (case c3q32 => exact rfl); (case c4q32 => exact rfl); k_whole; (rename Fr _ _ _ _ => kF0); clear kF0; (rename Frag.In _ _ => kF0); clear kF0;  (rename Top _ _ _ _ _ _ => kF0); clear kF0; (rename Below _ _ _ _ => kF0); clear kF0; intro L' h' tk' cells' F' N' Y' B' X' T'; k_cells Y'; (try simp only [List.cons_append, List.nil_append] at N'); (try dsimp only); (try k_fold))))
  k_with_none
  (rename _ ∧ _ => hp9; obtain ⟨hp8, hp9⟩ := hp9)
  k_steps
  all_goals (first | ((try (k_unfold; (try dsimp only))); (try dsimp only); (try (k_unfold; (try dsimp only))); ((rename (∀ r h' tk', Grows _ h' → OutE _ _ h' r → _) => hret9); (refine' endE hret9 (by k_asm) (by k_asm) (by k_mem) (by assumption) ?_))) | ((try (k_unfold; (try dsimp only))); (try dsimp only); (try (k_unfold; (try dsimp only))); (first | ((rename (∀ r h' tk', Grows _ h' → OutL _ _ h' r → _) => hret9); (first | (refine' endL hret9 (by k_asm) (by k_asm) (by k_mem) (by assumption) ?_) | (refine' endL hret9 (by k_asm) (by k_asm) (by k_mem) IntsAre.nil ?_) | (refine' endP hret9 (by k_asm) (by assumption) (by assumption) (by assumption) ?_))) | ((rename (∀ r h' tk', Grows _ h' → OutI _ _ h' r → _) => hret9); (refine' endI hret9 (by k_asm) ?_)))))
  rw [full_end (by omega)]; assumption
section
/-- the resultant of two rows: their Sylvester determinant -/
noncomputable def Res (a b : List Int) : Int := Sj 0 (a.length - 1) (b.length - 1) (cut a) (cut b) 0

structure RInv (a0 b0 a b : List Int) (g h s0 s : Int) : Prop where
  la : 2 ≤ a.length
  ab : b.length ≤ a.length
  a7 : a.length ≤ a0.length
  b7 : b.length ≤ b0.length
  g0 : g ≠ 0
  h0 : h ≠ 0
  s2 : s * s = 1
  z2 : s0 * s0 = 1
  ta : lead a ≠ 0
  tb : b = [] ∨ lead b ≠ 0
  ba : BL 300 a
  bb : BL 300 b
  bg : Builtin.Int.intBits g ≤ 300
  bh : Builtin.Int.intBits h ≤ 300
  inv : b ≠ [] → ∀ j, j ≤ b.length - 1 → j < a.length - 1 → ∃ σ : Int, σ * σ = 1 ∧ ∀ κ, Sj j (a.length - 1) (b.length - 1) (cut a) (cut b) κ = σ * (g ^ (b.length - 1 - j) * (h ^ (a.length - 1 - j - 1) * Sj j (a0.length - 1) (b0.length - 1) (cut a0) (cut b0) κ))
  inv0 : b ≠ [] → ∀ κ, s * Sj 0 (a.length - 1) (b.length - 1) (cut a) (cut b) κ = s0 * (g ^ (b.length - 1) * (h ^ (a.length - 1 - 1) * Sj 0 (a0.length - 1) (b0.length - 1) (cut a0) (cut b0) κ))
  nil : b = [] → Res a0 b0 = 0

/-- what the two rows at the start are -/
structure RPre (a0 b0 : List Int) : Prop where
  la : 2 ≤ a0.length
  lb : 0 < b0.length
  ab : b0.length ≤ a0.length
  a7 : a0.length ≤ 7
  ta : lead a0 ≠ 0
  tb : lead b0 ≠ 0
  ba : ∀ k, (cut a0 k).natAbs ≤ 2 ^ 20
  bb : ∀ k, (cut b0 k).natAbs ≤ 2 ^ 20
  sum : a0.length + b0.length ≤ 13

theorem cut_out {a : List Int} : ∀ t, a.length - 1 < t → cut a t = 0 := fun t ht => cut_high (by lia)
theorem bits_of_lt {x : Int} (h : x.natAbs < 2 ^ 300) : Builtin.Int.intBits x ≤ 300 := PySem.intBits_le_iff.mpr h
theorem BL_of {a : List Int} (h : ∀ k, (cut a k).natAbs < 2 ^ 300) : BL 300 a := fun x hx => by
  obtain ⟨i, hi, rfl⟩ := List.mem_iff_getElem.mp hx
  have := h i
  rw [show cut a i = a[i] from by simp [cut, hi]] at this
  exact bits_of_lt this
theorem RPre.start {a0 b0 : List Int} (P : RPre a0 b0) {s : Int} (hs : s * s = 1) : RInv a0 b0 a0 b0 1 1 s s := by
  have h20 : (2 : Nat) ^ 20 < 2 ^ 300 := by decide +kernel
  refine ⟨P.la, P.ab, Nat.le_refl _, Nat.le_refl _, by decide, by decide, hs, hs, P.ta, .inr P.tb, BL_of fun k => Nat.lt_of_le_of_lt (P.ba k) h20, BL_of fun k => Nat.lt_of_le_of_lt (P.bb k) h20, by decide, by decide, ?_, ?_, ?_⟩
  · intro _ j _ _; exact ⟨1, rfl, fun κ => by simp [Int.one_pow]⟩
  · intro _ κ; simp [Int.one_pow]
  · rintro rfl; exact absurd P.lb (by simp)
theorem Sj0_bound {a0 b0 : List Int} (P : RPre a0 b0) {j κ : Nat} (h1 : 2 * j < a0.length - 1 + (b0.length - 1)) (h2 : j ≤ a0.length - 1) (h3 : j ≤ b0.length - 1) : (Sj j (a0.length - 1) (b0.length - 1) (cut a0) (cut b0) κ).natAbs < 2 ^ 300 := by
  refine Nat.lt_of_le_of_lt (Sj_bound P.ba P.bb h1 h2 h3) (dpB_small _ ?_)
  have := P.sum
  omega
theorem mul_cancel {x y z : Int} (h : x ≠ 0) (e : x * y = x * z) : y = z := Int.eq_of_mul_eq_mul_left h e
theorem sq_pm {x : Int} (h : x * x = 1) : x = 1 ∨ x = -1 := by
  have h1 : (x - 1) * (x + 1) = 0 := by grind
  rcases Int.mul_eq_zero.mp h1 with e | e
  · left; lia
  · right; lia
/-- the powers cancel -/
theorem cancel {β g h h' σ τ S0 X : Int} {δ u v w : Nat} (hβ : β ≠ 0) (hg : g ≠ 0) (hh : h ≠ 0) (hτ : τ * τ = 1) (hw : w + v = δ + u + 1)
    (hd : (δ = 0 ∧ h' = h) ∨ (∃ d, δ = d + 1 ∧ h' * h ^ d = β ^ δ))
    (E : β ^ ((δ + 1) * (u + 1)) * (σ * (g ^ (u + 1) * (h ^ (u + δ) * S0))) = τ * (β ^ w * ((g * h ^ δ) ^ (u + 1) * X))) :
    X = τ * σ * (β ^ v * (h' ^ u * S0)) := by
  have e1 : (δ + 1) * (u + 1) = w + v + δ * u := by rw [hw]; grind
  rw [e1, Int.pow_add, Int.pow_add, Int.pow_mul, Int.mul_pow] at E
  have E1 : β ^ v * ((β ^ δ) ^ u * (σ * (h ^ (u + δ) * S0))) = τ * ((h ^ δ) ^ (u + 1) * X) := by
    refine mul_cancel (x := β ^ w * g ^ (u + 1)) (Int.mul_ne_zero (Int.pow_ne_zero hβ) (Int.pow_ne_zero hg)) ?_
    grind
  rcases hd with ⟨rfl, rfl⟩ | ⟨d, rfl, hd⟩
  · simp only [Int.pow_zero, Int.one_pow, Int.one_mul, Nat.add_zero] at E1
    have : τ * (τ * X) = τ * (β ^ v * (σ * (h' ^ u * S0))) := by rw [E1]
    rw [← Int.mul_assoc, hτ, Int.one_mul] at this
    rw [this]; grind
  · rw [← hd, Int.mul_pow] at E1
    have e2 : h ^ (u + (d + 1)) = h ^ u * h ^ (d + 1) := Int.pow_add ..
    have e3 : (h ^ (d + 1)) ^ (u + 1) = (h ^ d) ^ u * h ^ u * h ^ (d + 1) := by
      rw [← Int.pow_mul, ← Int.pow_mul, ← Int.pow_add, ← Int.pow_add]; congr 1; grind
    rw [e2, e3] at E1
    have E2 : β ^ v * (h' ^ u * (σ * S0)) = τ * X := by
      refine mul_cancel (x := (h ^ d) ^ u * h ^ u * h ^ (d + 1)) (Int.mul_ne_zero (Int.mul_ne_zero (Int.pow_ne_zero (Int.pow_ne_zero hh)) (Int.pow_ne_zero hh)) (Int.pow_ne_zero hh)) ?_
      grind
    have : τ * (τ * X) = τ * (β ^ v * (h' ^ u * (σ * S0))) := by rw [E2]
    rw [← Int.mul_assoc, hτ, Int.one_mul] at this
    rw [this]; grind
theorem cut_pDiv (a : List Int) (d : Int) (i : Nat) : cut (pDiv a d) i = (cut a i).fdiv d := cut_map _ (by simp) _ _

theorem sg_odd (m n : Nat) : sg (n * m) = if m % 2 = 1 ∧ n % 2 = 1 then -1 else 1 := by
  unfold sg
  rcases Nat.mod_two_eq_zero_or_one m with h1 | h1 <;> rcases Nat.mod_two_eq_zero_or_one n with h2 | h2 <;> simp [Nat.mul_mod, h1, h2]

section
variable {a0 b0 a b R : List Int} {g h s0 s : Int}
theorem many_nat (h : b.length ≤ a.length) : (manyOf a b).toNat = a.length - b.length + 1 := by
  unfold manyOf
  rw [if_pos (by lia), na13 h]
/-- the rest is a multiple of g h^δ; what it is divided to is a subresultant up to its sign -/
theorem RInv.exact (I : RInv a0 b0 a b g h s0 s) (hn : 2 ≤ b.length) (hR : IsPrem a b R) :
    ∃ τ : Int, τ * τ = 1 ∧ ∀ κ, cut R κ = g * h ^ (a.length - b.length) * (τ * Sj (b.length - 2) (a0.length - 1) (b0.length - 1) (cut a0) (cut b0) κ) := by
  have hb0 : b ≠ [] := by rintro rfl; simp at hn
  have tb : lead b ≠ 0 := I.tb.resolve_left hb0
  have hla := I.la
  have hab := I.ab
  have h1 := Nat.le_of_succ_le hn
  obtain ⟨σ, hσ, hinv⟩ := I.inv hb0 (b.length - 2) (Nat.le_of_lt (na17 hn)) (Nat.lt_of_lt_of_le (na17 hn) (Nat.sub_le_sub_right hab 1))
  obtain ⟨c, hc⟩ := hR.q
  have hmo := many_nat hab
  have hlen := hR.len
  have hrl : ∀ {t}, b.length - 2 < t → R.length ≤ t := fun ht => Nat.le_trans (Nat.le_sub_one_of_lt hlen) (Nat.le_of_pred_lt ht)
  refine ⟨sg (a.length - b.length + 1) * σ, by have := sg_sq (a.length - b.length + 1); grind, fun κ => ?_⟩
  have st := Sj_step (j := b.length - 2) (k := b.length - 2) (m := a.length - 1) (n := b.length - 1) (κ := κ) (a := cut a) (b := cut b) (r := cut R) (c := c) (x := lead b ^ (a.length - b.length + 1)) cut_out (fun t ht => cut_high (hrl ht)) (Nat.le_refl _) (na17 hn) (Nat.sub_le_sub_right hab 1)
    (fun t => by
      have := hc t
      rw [hmo] at this
      rw [na6 (Nat.le_trans h1 hab) h1]
      exact this)
  have tp := Sj_top (m := b.length - 1) (n := b.length - 2) (κ := κ) (a := cut b) (b := cut R) (fun t ht => cut_high (hrl ht)) (na17 hn)
  rw [na15 hn, Nat.sub_self, Int.pow_zero, Int.one_mul] at tp
  rw [tp, hinv κ] at st
  rw [na15 hn, na12 hab hn, Nat.add_sub_cancel] at st
  simp only [Int.pow_one, Nat.one_mul] at st
  have hl : cut b (b.length - 1) = lead b := rfl
  rw [hl] at st
  have e2 := mul_cancel (x := lead b ^ (a.length - b.length + 1)) (y := σ * (g * (h ^ (a.length - b.length) * Sj (b.length - 2) (a0.length - 1) (b0.length - 1) (cut a0) (cut b0) κ))) (z := sg (a.length - b.length + 1) * cut R κ) (Int.pow_ne_zero tb) (by rw [st]; grind)
  have e3 := sg_sq (a.length - b.length + 1)
  have e4 : sg (a.length - b.length + 1) * (sg (a.length - b.length + 1) * cut R κ) = cut R κ := by rw [← Int.mul_assoc, e3, Int.one_mul]
  rw [← e4, ← e2]
  grind
/-- the power of the lead is a multiple of h^(δ - 1) -/
theorem RInv.lead_pow (I : RInv a0 b0 a b g h s0 s) (hn : b ≠ []) (hδ : b.length < a.length) :
    ∃ σ : Int, σ * σ = 1 ∧ lead b ^ (a.length - b.length) = h ^ (a.length - b.length - 1) * (σ * Sj (b.length - 1) (a0.length - 1) (b0.length - 1) (cut a0) (cut b0) (b.length - 1)) := by
  have hb : 0 < b.length := List.length_pos_iff.mpr hn
  obtain ⟨σ, hσ, hinv⟩ := I.inv hn (b.length - 1) (Nat.le_refl _) (Nat.sub_lt_sub_right hb hδ)
  have tp := Sj_top (m := a.length - 1) (n := b.length - 1) (κ := b.length - 1) (a := cut a) (b := cut b) cut_out (Nat.sub_lt_sub_right hb hδ)
  have := hinv (b.length - 1)
  rw [tp, Nat.sub_self, Int.pow_zero, Int.one_mul] at this
  refine ⟨σ, hσ, ?_⟩
  have hl : cut b (b.length - 1) = lead b := rfl
  rw [hl, na9 hδ hb, ← Int.pow_succ, show (a.length - b.length - 1).succ = a.length - b.length from na8 hδ] at this
  rw [this]; grind
noncomputable def nextH (a b : List Int) (h : Int) : Int := if a.length - b.length > 0 then (lead b ^ (a.length - b.length)).fdiv (h ^ (a.length - b.length - 1)) else h
theorem RInv.nextH_eq (I : RInv a0 b0 a b g h s0 s) (hn : b ≠ []) (hδ : b.length < a.length) : nextH a b h * h ^ (a.length - b.length - 1) = lead b ^ (a.length - b.length) := by
  obtain ⟨σ, _, e⟩ := I.lead_pow hn hδ
  unfold nextH
  rw [if_pos (Nat.sub_pos_of_lt hδ), e, Int.mul_fdiv_cancel_left _ (Int.pow_ne_zero I.h0), Int.mul_comm]
theorem natAbs_pm {σ x : Int} (h : σ * σ = 1) : (σ * x).natAbs = x.natAbs := by
  rcases sq_pm h with e | e <;> subst e <;> simp

theorem RInv.turn (P : RPre a0 b0) (I : RInv a0 b0 a b g h s0 s) (hn : 2 ≤ b.length) (hR : IsPrem a b R) :
    RInv a0 b0 b (pDiv R (g * h ^ (a.length - b.length))) (lead b) (nextH a b h) s0 (if (a.length - 1) % 2 = 1 ∧ (b.length - 1) % 2 = 1 then -s else s) := by
  have hb0 : b ≠ [] := by rintro rfl; simp at hn
  have tb : lead b ≠ 0 := I.tb.resolve_left hb0
  have hla := I.la
  have hab := I.ab
  have ha7 := I.a7
  have hb7 := I.b7
  have hPab := P.ab
  have hP7 := P.a7
  have hlen := hR.len
  have h1 := Nat.le_of_succ_le hn
  have hmn : b.length - 1 ≤ a.length - 1 := Nat.sub_le_sub_right hab 1
  have hba0 := Nat.le_trans hb7 hPab
  have hd0 : g * h ^ (a.length - b.length) ≠ 0 := Int.mul_ne_zero I.g0 (Int.pow_ne_zero I.h0)
  generalize hdd : g * h ^ (a.length - b.length) = d at hd0 ⊢
  obtain ⟨τ, hτ, hx⟩ := I.exact hn hR
  rw [hdd] at hx
  have hC : ∀ κ, cut (pDiv R d) κ = τ * Sj (b.length - 2) (a0.length - 1) (b0.length - 1) (cut a0) (cut b0) κ := fun κ => by
    rw [cut_pDiv, hx κ, Int.mul_fdiv_cancel_left _ hd0]
  have hRC : cut R = rsm d (cut (pDiv R d)) := by
    funext κ; show _ = d * _; rw [hC, hx κ]
  have hCl : (pDiv R d).length = R.length := pDiv_length ..
  have hs' : sg ((b.length - 1) * (a.length - 1)) * s = if (a.length - 1) % 2 = 1 ∧ (b.length - 1) % 2 = 1 then -s else s := by
    rw [sg_odd]; split
    · exact (Int.neg_one_mul s)
    · exact Int.one_mul s
  have hhn : nextH a b h ≠ 0 := by
    intro e
    by_cases hδ : b.length < a.length
    · have := I.nextH_eq hb0 hδ
      rw [e, Int.zero_mul] at this
      exact Int.pow_ne_zero tb this.symm
    · unfold nextH at e; rw [if_neg (na14 hδ)] at e; exact I.h0 e
  have hδd : (a.length - b.length = 0 ∧ nextH a b h = h) ∨ (∃ e, a.length - b.length = e + 1 ∧ nextH a b h * h ^ e = lead b ^ (a.length - b.length)) := by
    by_cases hδ : b.length < a.length
    · exact .inr ⟨a.length - b.length - 1, (na8 hδ).symm, I.nextH_eq hb0 hδ⟩
    · exact .inl ⟨Nat.sub_eq_zero_of_le (Nat.not_lt.mp hδ), by unfold nextH; rw [if_neg (na14 hδ)]⟩
  obtain ⟨c, hc⟩ := hR.q
  have hmo := many_nat hab
  have hlt : (pDiv R d).length < b.length := by rw [hCl]; exact hlen
  have hq : ∀ t, lead b ^ (a.length - b.length + 1) * cut a t = comb c (cut b) (a.length - 1 + 1 - (b.length - 1)) t + cut R t := fun t => by
    have := hc t
    rw [hmo] at this
    rw [na6 (Nat.le_trans h1 hab) h1]
    exact this
  -- the step, whole
  have step : ∀ j κ, pDiv R d ≠ [] → j ≤ (pDiv R d).length - 1 → (lead b ^ (a.length - b.length + 1)) ^ (b.length - 1 - j) * Sj j (a.length - 1) (b.length - 1) (cut a) (cut b) κ =
      sg ((b.length - 1 - j) * (a.length - 1 - j)) * (lead b ^ (a.length - 1 - ((pDiv R d).length - 1)) * (d ^ (b.length - 1 - j) * Sj j (b.length - 1) ((pDiv R d).length - 1) (cut b) (cut (pDiv R d)) κ)) := by
    intro j κ hne hj
    have hpos : 0 < (pDiv R d).length := List.length_pos_iff.mpr hne
    have st := Sj_step (j := j) (k := (pDiv R d).length - 1) (m := a.length - 1) (n := b.length - 1) (κ := κ) (a := cut a) (b := cut b) (r := cut R) (c := c) (x := lead b ^ (a.length - b.length + 1)) cut_out (fun t ht => cut_high (by rw [← hCl]; exact Nat.le_of_pred_lt ht)) hj (Nat.sub_lt_sub_right hpos hlt) hmn hq
    rw [st, hRC, Sj_homog d hj (Nat.sub_lt_sub_right hpos hlt), Int.mul_assoc]
    rfl
  have fin : ∀ j κ (σ : Int), pDiv R d ≠ [] → j ≤ (pDiv R d).length - 1 → Sj j (a.length - 1) (b.length - 1) (cut a) (cut b) κ = σ * (g ^ (b.length - 1 - j) * (h ^ (a.length - 1 - j - 1) * Sj j (a0.length - 1) (b0.length - 1) (cut a0) (cut b0) κ)) →
      Sj j (b.length - 1) ((pDiv R d).length - 1) (cut b) (cut (pDiv R d)) κ = sg ((b.length - 1 - j) * (a.length - 1 - j)) * σ * (lead b ^ ((pDiv R d).length - 1 - j) * (nextH a b h ^ (b.length - 1 - j - 1) * Sj j (a0.length - 1) (b0.length - 1) (cut a0) (cut b0) κ)) := by
    intro j κ σ hne hj hinv
    have hpos : 0 < (pDiv R d).length := List.length_pos_iff.mpr hne
    have st := step j κ hne hj
    have hdp : ∀ n : Nat, d ^ n = (g * h ^ (a.length - b.length)) ^ n := fun n => by rw [hdd]
    rw [hinv, ← Int.pow_mul, hdp] at st
    refine cancel (β := lead b) (g := g) (h := h) (h' := nextH a b h) (σ := σ) (τ := sg ((b.length - 1 - j) * (a.length - 1 - j))) (δ := a.length - b.length) (u := b.length - 1 - j - 1) (v := (pDiv R d).length - 1 - j) (w := a.length - 1 - ((pDiv R d).length - 1)) tb I.g0 I.h0 (sg_sq _) (na5 hab hlt hj hpos) hδd ?_
    rw [na4 (na1 hlt hj hpos), na3 hab (na1 hlt hj hpos)]
    exact st
  refine ⟨hn, Nat.le_of_lt hlt, hba0, Nat.le_trans (Nat.le_of_lt hlt) hb7, tb, hhn, ?_, I.z2, tb, ?_, I.bb, ?_, I.bb.lead, ?_, ?_, ?_, ?_⟩
  · rw [← hs']; have := sg_sq ((b.length - 1) * (a.length - 1)); have := I.s2; grind
  · rcases hR.tr with e | e
    · left; subst e; rfl
    · right
      unfold lead at e ⊢
      rw [hRC] at e
      rw [hCl]
      intro q
      exact e (by show d * _ = 0; rw [q]; simp)
  · refine BL_of fun κ => ?_
    rw [hC, natAbs_pm hτ]
    exact Sj0_bound P (na10 hn hb7 hPab) (na16 hn hba0) (na16 hn hb7)
  · by_cases hδ : b.length < a.length
    · obtain ⟨σ, hσ, e⟩ := I.lead_pow hb0 hδ
      have : nextH a b h = σ * Sj (b.length - 1) (a0.length - 1) (b0.length - 1) (cut a0) (cut b0) (b.length - 1) := by
        unfold nextH; rw [if_pos (Nat.sub_pos_of_lt hδ), e, Int.mul_fdiv_cancel_left _ (Int.pow_ne_zero I.h0)]
      rw [this]
      refine bits_of_lt ?_
      rw [natAbs_pm hσ]
      exact Sj0_bound P (na11 hn hb7 ha7 hδ) (Nat.sub_le_sub_right hba0 1) (Nat.sub_le_sub_right hb7 1)
    · unfold nextH; rw [if_neg (na14 hδ)]; exact I.bh
  · intro hne j hj1 hj2
    obtain ⟨σ, hσ, hinv⟩ := I.inv hb0 j (Nat.le_of_lt hj2) (Nat.lt_of_lt_of_le hj2 hmn)
    refine ⟨sg ((b.length - 1 - j) * (a.length - 1 - j)) * σ, by have := sg_sq ((b.length - 1 - j) * (a.length - 1 - j)); grind, fun κ => ?_⟩
    exact fin j κ σ hne hj1 (hinv κ)
  · intro hne κ
    have i0 := I.inv0 hb0 κ
    have e1 : Sj 0 (a.length - 1) (b.length - 1) (cut a) (cut b) κ = (s * s0) * (g ^ (b.length - 1 - 0) * (h ^ (a.length - 1 - 0 - 1) * Sj 0 (a0.length - 1) (b0.length - 1) (cut a0) (cut b0) κ)) := by
      have : s * (s * Sj 0 (a.length - 1) (b.length - 1) (cut a) (cut b) κ) = s * (s0 * (g ^ (b.length - 1) * (h ^ (a.length - 1 - 1) * Sj 0 (a0.length - 1) (b0.length - 1) (cut a0) (cut b0) κ))) := by rw [i0]
      rw [← Int.mul_assoc, I.s2, Int.one_mul] at this
      rw [this]; simp only [Nat.sub_zero]; grind
    have := fin 0 κ (s * s0) hne (Nat.zero_le _) e1
    simp only [Nat.sub_zero] at this
    rw [this, ← hs']
    have q1 := sg_sq ((b.length - 1) * (a.length - 1))
    have q2 := I.s2
    have q3 : sg ((b.length - 1) * (a.length - 1)) * s * (sg ((b.length - 1) * (a.length - 1)) * (s * s0)) = s0 := by
      have : sg ((b.length - 1) * (a.length - 1)) * s * (sg ((b.length - 1) * (a.length - 1)) * (s * s0)) = (sg ((b.length - 1) * (a.length - 1)) * sg ((b.length - 1) * (a.length - 1))) * (s * s) * s0 := by grind
      rw [this, q1, q2]; simp
    rw [← Int.mul_assoc (sg _ * s), q3]
  · intro e
    have hRn : R = [] := by
      have : R.length = 0 := by rw [← hCl, e]; rfl
      exact List.length_eq_zero_iff.mp this
    have st := Sj_step (j := 0) (k := b.length - 2) (m := a.length - 1) (n := b.length - 1) (κ := 0) (a := cut a) (b := cut b) (r := cut R) (c := c) (x := lead b ^ (a.length - b.length + 1)) cut_out (fun t ht => cut_high (by rw [hRn]; exact Nat.zero_le _)) (Nat.zero_le _) (na17 hn) hmn hq
    have hz : Sj 0 (b.length - 1) (b.length - 2) (cut b) (cut R) 0 = 0 := by
      have h1 : cut R = rsm 0 (cut R) := by funext t; subst hRn; simp [rsm, cut]
      rw [h1, Sj_homog 0 (Nat.zero_le _) (na17 hn), Int.zero_pow (Nat.sub_ne_zero_of_lt (Nat.sub_pos_of_lt hn)), Int.zero_mul]
    rw [hz, Int.mul_zero] at st
    have h2 := (Int.mul_eq_zero.mp st).resolve_left (Int.pow_ne_zero (Int.pow_ne_zero tb))
    have i0 := I.inv0 hb0 0
    rw [h2, Int.mul_zero] at i0
    have z0 : s0 ≠ 0 := by intro q; have := I.z2; rw [q] at this; simp at this
    have h3 := (Int.mul_eq_zero.mp i0.symm).resolve_left z0
    have h4 := (Int.mul_eq_zero.mp h3).resolve_left (Int.pow_ne_zero I.g0)
    exact (Int.mul_eq_zero.mp h4).resolve_left (Int.pow_ne_zero I.h0)

theorem RInv.fin (I : RInv a0 b0 a b g h s0 s) (hb : b.length = 1) : s * (cut b 0 ^ (a.length - 1)).fdiv (h ^ (a.length - 1 - 1)) = s0 * Res a0 b0 := by
  have hb0 : b ≠ [] := by rintro rfl; simp at hb
  have hla := I.la
  have i0 := I.inv0 hb0 0
  have tp := Sj_top (m := a.length - 1) (n := 0) (κ := 0) (a := cut a) (b := cut b) (fun t ht => cut_high (by lia)) (by lia)
  rw [hb] at i0
  rw [show 1 - 1 = 0 by lia, tp, Int.pow_zero, Int.one_mul, Nat.sub_zero, ← Int.pow_succ, show (a.length - 1 - 1).succ = a.length - 1 by lia] at i0
  have e : cut b 0 ^ (a.length - 1) = h ^ (a.length - 1 - 1) * (s * s0 * Res a0 b0) := by
    have : s * (s * cut b 0 ^ (a.length - 1)) = s * (s0 * (h ^ (a.length - 1 - 1) * Res a0 b0)) := by rw [i0]; rfl
    rw [← Int.mul_assoc, I.s2, Int.one_mul] at this
    rw [this]; grind
  rw [e, Int.mul_fdiv_cancel_left _ (Int.pow_ne_zero I.h0), ← Int.mul_assoc, ← Int.mul_assoc, I.s2, Int.one_mul]
end
end
local macro_rules | `(tactic| walk_at "p apart") => `(tactic| first | assumption | (exact Ne.symm (by assumption)) | exact ne_gt (by assumption) | exact ne_lt (by assumption) | exact ne_gt1 (by assumption) | ((repeat ((rename _ ∧ _ => h9); obtain ⟨h91, h92⟩ := h9)); first | assumption | exact Ne.symm (by assumption) | exact ne_gt (by assumption) | exact ne_lt (by assumption)))
theorem nz_gh {g h : Int} {n : Nat} (hg : g ≠ 0) (hh : h ≠ 0) : g * h ^ n ≠ 0 := Int.mul_ne_zero hg (Int.pow_ne_zero hh)
theorem nz_pow {h : Int} {n : Nat} (hh : h ≠ 0) : h ^ n ≠ 0 := Int.pow_ne_zero hh
theorem bits_pow {h z : Int} (bh : Builtin.Int.intBits h ≤ 300) (hz : z ≤ 8) : Builtin.Int.intBits (h ^ z.toNat) ≤ 2401 := Nat.le_trans (PySem.intBits_pow_le bh _) (by omega)
theorem bits_gh {g h z : Int} (bg : Builtin.Int.intBits g ≤ 300) (bh : Builtin.Int.intBits h ≤ 300) (hz : z ≤ 8) : Builtin.Int.intBits (g * h ^ z.toNat) ≤ 9000 := Nat.le_trans (bits_mul bg (bits_pow bh hz)) (by decide)
theorem bits_pow9 {h z : Int} (bh : Builtin.Int.intBits h ≤ 300) (hz : z ≤ 8) : Builtin.Int.intBits (h ^ z.toNat) ≤ 9000 := Nat.le_trans (bits_pow bh hz) (by decide)
theorem sml_pow {h z : Int} (bh : Builtin.Int.intBits h ≤ 300) (hz : z ≤ 8) : Sml (h ^ z.toNat) := Nat.le_trans (bits_pow bh hz) (by decide)
theorem sml_300 {h : Int} (bh : Builtin.Int.intBits h ≤ 300) : Sml h := Nat.le_trans bh (by decide)
theorem sml_pm {s : Int} (h : s * s = 1) : Sml s := by
  rcases sq_pm h with rfl | rfl <;> decide
theorem sml_fdiv {x y : Int} {n : Nat} (h : Builtin.Int.intBits x ≤ n) (hn : n ≤ 1048576) : Sml (x.fdiv y) := Nat.le_trans (bits_fdiv h) hn
local macro_rules | `(tactic| walk_at "p small") => `(tactic| first | (exact sml_fdiv (bits_pow9 (by assumption) (by omega)) (by decide)) | (exact sml_300 (by assumption)) | (exact sml_pow (by assumption) (by omega)))
local macro_rules | `(tactic| walk_at "p nonzero") => `(tactic| first | (exact nz_gh (by assumption) (by assumption)) | (exact nz_pow (by assumption)))
local macro_rules | `(tactic| walk_at "p bits") => `(tactic| first | (exact bits_gh (by assumption) (by assumption) (by omega)) | (exact bits_pow9 (by assumption) (by omega)))
local macro_rules | `(tactic| walk_at "p afterEP") => `(tactic| (k_whole; intro d9 v9 n9 R9 h9 tk9 F9 N9 I9 P9; (have PL9 := IsPrem.len P9); (try dsimp only); (try k_sweep); (try k_fold)))
local macro_rules | `(tactic| walk_at "call ref") => `(tactic| (k_here; k_dflt (refine' PCon.useL (con_divided _ _ _ _ _ _ ?hi ?hlen ?hk ?hb) ?k1 ?k2 ?k3 ?k4 ?k5 ?kK ?pre ?kd ?ku ?_; (case pre => walk_at "p list"); (case hi => walk_at "p ints"); (case hlen => walk_at "p len"); (case hk => walk_at "p nonzero"); (case hb => walk_at "p bits"); walk_at "p sides"); walk_at "p afterL"))
local macro_rules | `(tactic| walk_at "call ref") => `(tactic| (k_here; k_dflt (refine' PCon.useE (con_full _ _ _ _ ?hi ?hlen _ _ _ ?hi1 ?hlen1 ?h0 ?hle ?ba ?bb ?hta ?htb) ?k1 ?k2 ?k3 ?k4 ?k5 ?kK (And.intro ?pre ?pre1) ?kd ?ku ?_; (case pre => walk_at "p list"); (case pre1 => walk_at "p list"); (case hi => walk_at "p ints"); (case hi1 => walk_at "p ints"); (case hlen => walk_at "p len"); (case hlen1 => walk_at "p len"); (case h0 => omega); (case hle => omega); (case ba => assumption); (case bb => assumption); (case hta => assumption); (case htb => assumption); walk_at "p sides"); walk_at "p afterEP"))

local macro_rules | `(tactic| walk_at "compareOp Eq ref ref") => `(tactic| (k_here; k_dflt (refine' eq_intsK ?k1 ?k2 ?k3 ?k4 ?k5 ?_; (case k1 => walk_at "p list"); (case k2 => walk_at "p ints"); (case k3 => walk_at "p list"); (case k4 => walk_at "p ints"); (case k5 => ktr_units)); (try dsimp only)))

theorem nil_pos {b : List Int} (h : decide (b = []) = false) : 0 < b.length := List.length_pos_iff.mpr (of_decide_eq_false h)
local macro_rules | `(tactic| walk_at "p idx") => `(tactic| first | omega | (have q9 := nil_pos (by assumption); omega) | ((simp only [Int.fmod_eq_emod_of_nonneg _ (show (0 : Int) ≤ 2 by decide)] at *); omega))
local macro_rules | `(tactic| walk_at "binaryOp Pow int int") => `(tactic| (k_here; (with_reducible refine pow_int ?pd1 (pow_room ?pd2 ?pd3 ?pd4) ?_); (case pd1 => walk_at "p idx"); (case pd2 => walk_at "p small"); (case pd3 => walk_at "p idx"); (case pd4 => walk_at "p idx")))
theorem tn1 {a b : Nat} (h : b ≤ a) (h1 : 1 ≤ b) : ((a : Int) - 1 - (b - 1)).toNat = a - b := by omega
theorem tn2 {a b : Nat} (h : b ≤ a) (h1 : 1 ≤ b) : ((a : Int) - 1 - (b - 1) - 1).toNat = a - b - 1 := by omega
theorem tn3 {a b : Nat} (q : 0 < (a : Int) - 1 - (b - 1)) : a - b > 0 := by omega
theorem tn4 {a b : Nat} (q : ¬ 0 < (a : Int) - 1 - (b - 1)) : ¬ a - b > 0 := by omega
theorem tn5 {a : Nat} (h : 1 ≤ a) : ((a : Int) - 1).fmod 2 = 1 ↔ (a - 1) % 2 = 1 := by
  rw [Int.fmod_eq_emod_of_nonneg _ (show (0 : Int) ≤ 2 by decide)]; omega
theorem rx_end {a0 b0 a b R : List Int} {g h s0 s g' h' s' : Int} (P : RPre a0 b0) (I : RInv a0 b0 a b g h s0 s) (hb2 : 2 ≤ b.length) (hR : IsPrem a b R) (hg : g' = lead b)
    (hh : (0 < (a.length : Int) - 1 - (b.length - 1) ∧ h' = (lead b ^ ((a.length : Int) - 1 - (b.length - 1)).toNat).fdiv (h ^ ((a.length : Int) - 1 - (b.length - 1) - 1).toNat)) ∨ (¬ 0 < (a.length : Int) - 1 - (b.length - 1) ∧ h' = h))
    (hs : (((a.length : Int) - 1).fmod 2 = 1 ∧ ((b.length : Int) - 1).fmod 2 = 1) ∧ s' = -s ∨ ¬ (((a.length : Int) - 1).fmod 2 = 1 ∧ ((b.length : Int) - 1).fmod 2 = 1) ∧ s' = s) :
    RInv a0 b0 b (pDiv R (g * h ^ ((a.length : Int) - 1 - (b.length - 1)).toNat)) g' h' s0 s' ∧ (pDiv R (g * h ^ ((a.length : Int) - 1 - (b.length - 1)).toNat)).length < b.length := by
  have hlen := hR.len
  have b1 := Nat.le_of_succ_le hb2
  have a1 := Nat.le_trans b1 I.ab
  rw [tn1 I.ab b1] at hh ⊢
  rw [tn2 I.ab b1] at hh
  rw [tn5 a1, tn5 b1] at hs
  have T := I.turn P hb2 hR
  have f1 : h' = nextH a b h := by
    unfold nextH
    rcases hh with ⟨q, e⟩ | ⟨q, e⟩
    · rw [if_pos (tn3 q), e]
    · rw [if_neg (tn4 q), e]
  have f2 : s' = if (a.length - 1) % 2 = 1 ∧ (b.length - 1) % 2 = 1 then -s else s := by
    rcases hs with ⟨q, e⟩ | ⟨q, e⟩
    · rw [if_pos q, e]
    · rw [if_neg q, e]
  rw [hg, f1, f2]
  exact ⟨T, by rw [pDiv_length]; exact hlen⟩
theorem rx_fin {a0 b0 a b : List Int} {g h s0 s : Int} (I : RInv a0 b0 a b g h s0 s) (hb : b.length = 1) : s * (b.getD (Int.toNat 0) 0 ^ ((a.length : Int) - 1).toNat).fdiv (h ^ ((a.length : Int) - 1 - 1).toNat) = s0 * Res a0 b0 := by
  have hla := I.la
  have e := I.fin hb
  rw [show ((a.length : Int) - 1).toNat = a.length - 1 by omega, show ((a.length : Int) - 1 - 1).toNat = a.length - 1 - 1 by omega]
  exact e
theorem mem1 {α : Type} {P : α → Prop} {x : α} (hx : P x) : ∀ p ∈ [x], P p := fun p hp => by
  rw [List.mem_singleton.mp hp]; exact hx
local macro_rules | `(tactic| walk_at "subscriptTail") => `(tactic| (k_here; (with_reducible show wpAny _ _ (subscriptTail _ _ (Value.ref _) (Value.int _ _)) _ _ _); (with_unfolding_all refine' item_anyK ?k1 ?k2 ?k3 ?k4 ?k5 ?_ ?k6; (case k1 => walk_at "p list"); (case k2 => walk_at "p ints"); (case k3 => walk_at "p idx"); (case k4 => walk_at "p idx"); (case k5 => walk_at "p idx"); (case k6 => with_unfolding_all rfl); k_whole); intro _))


/-! a contract that takes objects of the caller's ledger into its own -/
/-- all but the taken objects stand in g -/
noncomputable def KeptBut (hid : List (Addr × Obj)) (h g : Heap) : Prop := ∀ b o, b ∉ hid.map (·.1) → h.get? b = some o → g.get? b = some o
noncomputable def PTake (w : World) (f : Addr) (args : List Value) (hid : List (Addr × Obj)) (D : Nat) (out : Value → Prop) : Prop :=
  ∀ (dp un : Nat) (gd : Option (List Code)) (cn : Str) (cs : Scope) (a : Addr) (ccd : Value) (cl : List (Str × Addr)) (outer : List Env) (A₀ : Around) (base h₀ : Heap) (L : Addr) (m : Str → Option Value) (s : Shared)
    (p : Program) (loose : List Str) (mean : ExcName → Option Value) (mg mb : Str → Option Value) (Q E : Value → Shared → Prop),
    Below A₀ base outer h₀ → Fr h₀ L s.heap m → (hd0.heap_1 w.params).In h₀ → Top p loose mean mg mb h₀ → cs.kind = .function → News h₀ L s.heap hid → dp + D < recursionLimit → un + 8 * D < cLine →
    (∀ r h' tk', (∀ b o, b ∉ hid.map (·.1) → s.heap.get? b = some o → h'.get? b = some o) → out r → Q r { s with heap := h', toks := tk' }) →
    wpAny (model PySem.Challenge.rw_sa0085_01.row.prog w) (ktrTop dp un gd cn cs L a ccd cl outer) (call (.ref f) args) Q E s
section
variable {prog : Program} {w : World} {A₀ A : Around} {s : Shared} {K : Frag} {base h₀ : Heap} {outer : List Env} {L : Addr} {m mg mb : Str → Option Value} {env : Env} {p : Program} {loose : List Str} {mean : ExcName → Option Value}
  {R : Result → Shared → Prop} {name qual : Str} {params : Arguments} {body : List Stmt} {scope : Scope} {dV kV doc pm cdv ct oc : Value} {an od : Option Addr} {osl : Array (Option Value)} {f : Addr} {args : Args} {binds : List (Str × Value)} {hid : List (Addr × Obj)}
theorem code_pT (B : Below A₀ base outer h₀) (F : Fr h₀ L s.heap m) (X₀ : K.In h₀) (T : Top p loose mean mg mb h₀) (N : News h₀ L s.heap hid) (hA : A.frames = some (env :: outer)) (hf : env.frame = some L) (hke : env.scope.kind = .function)
    (ho : K.lookup f = some ⟨oc, od, .func (fnOf name qual params body scope dV kV doc pm an cdv ct), osl⟩) (hcd : codeIn K cdv qual = true) (hroom : A.depth < recursionLimit)
    (hbind : BindsTo s (fnOf name qual params body scope dV kV doc pm an cdv ct) args binds) (hloc : ∀ y ∈ binds, scope.names.lookup y.1 = some .local)
    (h : ∀ g, KeptBut hid s.heap g → ∀ L' h₁, Fr g L' h₁ (fun y => binds.reverse.lookup y) → News g L' h₁ hid → Below A base (env :: outer) g → K.In g → Top p loose mean mg mb g →
      wpAny (model prog w) (A.deeper (envOf qual scope L' f cdv)) (execs body (envOf qual scope L' f cdv))
        (fun fl s' => R (.ok (.ret (match fl with | .ret v => v | _ => .none))) s')
        (fun e s' => wpAny (model prog w) (A.deeper (envOf qual scope L' f cdv)) (leaving (envOf qual scope L' f cdv) e) (fun _ s'' => R (.error e) s'') (fun e' s'' => R (.error e') s'') s')
        { s with heap := h₁, toks := s.toks + binds.length })
    (hco : scope.isCoroutine = false) (hgen : scope.isGenerator = false) (hk : scope.kind = .function)
    (hcell : ∀ x ∈ scope.names, x.2 ≠ .cell) : codeAny (model prog w) A (.call (.ref f) args) R s := by
  obtain ⟨_, BG, st, _⟩ := groundX (R := fun _ _ => True) B F N hA hf hke
  refine codeAny_call_def (fd := fnX name qual params body scope [] dV kV doc pm an cdv ct) (body := body) (binds := binds) hroom ((X₀.keeps F.keep) _ _ ho) rfl (T.nolimit.keeps F.keep) (codeRec_of (X₀.keeps F.keep) hcd) rfl hbind hcell hloc (fun h₁ hns hk₁ => ?_) hco hgen hk
  exact h _ (fun b o hb e => hideAll_get _ e hb) s.heap.objs.size h₁ ⟨hns, fun b o e => hk₁ b o (of_hideAll _ e), Nat.le_of_eq (hideAll_size _ _)⟩
    (fun q hq => ⟨hk₁ _ _ (N q hq).1, Nat.ne_of_lt (Heap.lt_size (N q hq).1), hideAll_none _ (List.mem_map_of_mem hq)⟩) BG (X₀.keeps st) (T.keeps st)
end
noncomputable def OutT (x : Int) (r : Value) : Prop := ∃ t, r = .int x t
section
variable {s : Shared} {L : Addr} {h : Heap} {m : Str → Option Value} {hid : List (Addr × Obj)} {x y : Int} {t : Tok} {Q : Value → Shared → Prop} {tk : Nat}
theorem endT {g : Heap} (hret : ∀ r h' tk', (∀ b o, b ∉ hid.map (·.1) → s.heap.get? b = some o → h'.get? b = some o) → OutT x r → Q r { s with heap := h', toks := tk' })
    (G : KeptBut hid s.heap g) (F : Fr g L h m) (e : y = x) : Q (.int y t) { s with heap := h, toks := tk } :=
  hret _ _ _ (fun b o hb e => F.keep b o (G b o hb e)) ⟨t, e ▸ rfl⟩
end
section
variable {w : World} {f : Addr} {args : List Value} {D : Nat} {dp un : Nat} {gd : Option (List Code)} {cn : Str} {cs : Scope} {a : Addr} {ccd : Value} {cl : List (Str × Addr)} {outer : List Env} {A₀ : Around} {base h₀ : Heap} {L : Addr} {m : Str → Option Value} {s : Shared}
    {p : Program} {loose : List Str} {mean : ExcName → Option Value} {mg mb : Str → Option Value} {Q E : Value → Shared → Prop} {hid news : List (Addr × Obj)} {x : Int}
theorem PTake.use (C : PTake w f args hid D (OutT x)) (B : Below A₀ base outer h₀) (F : Fr h₀ L s.heap m) (X : (hd0.heap_1 w.params).In h₀) (N : News h₀ L s.heap news) (T : Top p loose mean mg mb h₀) (hk : cs.kind = .function)
    (hs : ∀ q ∈ hid, q ∈ news) (hd : dp + D < recursionLimit) (hu : un + 8 * D < cLine)
    (ret : ∀ t h' tk', Fr h₀ L h' m → News h₀ L h' [] → Q (.int x t) { s with heap := h', toks := tk' }) :
    wpAny (model PySem.Challenge.rw_sa0085_01.row.prog w) (ktrTop dp un gd cn cs L a ccd cl outer) (call (.ref f) args) Q E s := by
  refine C _ _ _ _ _ _ _ _ _ _ _ _ _ _ _ _ _ _ _ _ _ _ B F X T hk (fun q hq => N q (hs q hq)) hd hu fun r h' tk' g o => ?_
  obtain ⟨t, rfl⟩ := o
  refine ret t h' tk' ⟨F.ns.at' fun o e => g L o (fun q => ?_) e, fun b o e => g b o (fun q => ?_) (F.keep b o e), F.above⟩ News.nil
  · obtain ⟨p, hp, e⟩ := List.mem_map.mp q
    exact (N p (hs p hp)).2.1 e
  · obtain ⟨p, hp, rfl⟩ := List.mem_map.mp q
    rw [(N p (hs p hp)).2.2] at e; cases e
end
structure RxS where
  aA : Addr
  va : List Value
  na : Nat
  a : List Int
  bA : Addr
  vb : List Value
  nb : Nat
  b : List Int
  g : Int
  gt : Tok
  h : Int
  ht : Tok
  s : Int
  st : Tok
theorem mem5 {α : Type} {P : α → Prop} {x y z u v : α} (hx : P x) (hy : P y) (hz : P z) (hu : P u) (hv : P v) : ∀ p ∈ [x, y, z, u, v], P p := fun p hp => by
  simp only [List.mem_cons, List.not_mem_nil, or_false] at hp
  rcases hp with rfl | rfl | rfl | rfl | rfl <;> assumption
/-! loops by an invariant of the names that are named, the rest of the frame a letter -/
local macro_rules | `(tactic| walk_at "it all") => `(tactic| ((try dsimp only); (repeat' (first | exact List.forall_mem_nil _ | refine List.forall_mem_cons.mpr ⟨?_, ?_⟩))))
theorem fr_self {h₀ h : Heap} {L : Addr} {m : Str → Option Value} {ps : List (Str × Value)} (hk : ∀ p ∈ ps, m p.1 = some p.2) (F : Fr h₀ L h m) : Fr h₀ L h (kstB m ps) := by
  have e : kstB m ps = m := funext fun y => kstB_eq hk fun _ => rfl
  rw [e]; exact F
noncomputable def KwEnd {σ : Type} (h₀ : Heap) (L : Addr) (s : Shared) (Led : σ → List (Addr × Obj)) (ps : σ → List (Str × Value)) (P : σ → Prop) (n : Nat) (μ : σ → Nat) (s₂ : Shared) : Prop :=
  ∃ (c' : σ) (h' : Heap) (tk : Nat) (m' : Str → Option Value) (all : List (Addr × Obj)), s₂ = { s with heap := h', toks := tk } ∧ Fr h₀ L h' m' ∧ News h₀ L h' all ∧ (∀ p ∈ Led c', p ∈ all) ∧ (∀ p ∈ ps c', m' p.1 = some p.2) ∧ P c' ∧ μ c' < n
theorem kw_end {σ : Type} {h₀ : Heap} {L : Addr} {s : Shared} {Led : σ → List (Addr × Obj)} {ps : σ → List (Str × Value)} {P : σ → Prop} {n : Nat} {μ : σ → Nat} {m' : Str → Option Value} {h' : Heap} {tk : Nat} {all : List (Addr × Obj)} (c' : σ)
    (F : Fr h₀ L h' m') (N : News h₀ L h' all) (hn : ∀ p ∈ Led c', p ∈ all) (hk : ∀ p ∈ ps c', m' p.1 = some p.2) (hp : P c') (hm : μ c' < n) : KwEnd h₀ L s Led ps P n μ { s with heap := h', toks := tk } :=
  ⟨c', h', tk, m', all, rfl, F, N, hn, hk, hp, hm⟩
section
variable {prog : Program} {w : World} {A : Around} {E : Value → Shared → Prop} {Q : Flow → Shared → Prop} {s : Shared} {env : Env} {h₀ : Heap} {L : Addr}
theorem kw_while {σ : Type} {test : Expr} {body : List Stmt} {pos : Pos} {m₀ : Str → Option Value} {news : List (Addr × Obj)} (Led : σ → List (Addr × Obj)) (ps : σ → List (Str × Value)) (P : σ → Prop) (μ : σ → Nat) (c₀ : σ)
    (F : Fr h₀ L s.heap m₀) (N : News h₀ L s.heap news) (hn : ∀ p ∈ Led c₀, p ∈ news) (hk : ∀ p ∈ ps c₀, m₀ p.1 = some p.2) (hp : P c₀)
    (turn : ∀ (c : σ) (U : Str → Option Value) h tk, P c → Fr h₀ L h (kstB U (ps c)) → News h₀ L h (Led c) →
      wpAny (model prog w) A (isTrue test env (eval test env)) (fun b s₂ =>
        if b = true then wpAny (model prog w) A (execs body env) (fun f s₃ => match f with | .ret v => Q (.ret v) s₃ | .brk => Q .next s₃ | _ => KwEnd h₀ L s Led ps P (μ c) μ s₃) E s₂ else Q .next s₂) E { s with heap := h, toks := tk })
    (hE : PassesOwn (model prog w) A env E := by passes_own) :
    wpAny (model prog w) A (exec (.While test body [] pos) env) Q E s := by
  refine While_inv2 (fun n m nx => ∃ c : σ, (∀ p ∈ Led c, p ∈ nx) ∧ μ c = n ∧ (∀ p ∈ ps c, m p.1 = some p.2) ∧ P c) F N ⟨c₀, hn, rfl, hk, hp⟩ ?_ hE
  rintro n m₁ nx h tk F₁ N₁ ⟨c, hnx, hsz, h1, hp'⟩
  refine wpAny_mono (turn c m₁ h tk hp' (fr_self h1 F₁) fun p hp => N₁ p (hnx p hp)) (fun b s₂ p => ?_) fun _ _ x => x
  cases b with
  | false => simpa using p
  | true =>
    simp only [if_true] at p ⊢
    refine wpAny_mono p (fun f s₃ q => ?_) fun _ _ x => x
    cases f with
    | ret v => exact q
    | brk => exact q
    | next =>
      obtain ⟨c', h', tk', m', all, rfl, F', N', hn', hk9, hp9, hm9⟩ := q
      exact ⟨h', tk', m', all, μ c', rfl, F', N', hsz ▸ hm9, c', hn', rfl, hk9, hp9⟩
    | cont =>
      obtain ⟨c', h', tk', m', all, rfl, F', N', hn', hk9, hp9, hm9⟩ := q
      exact ⟨h', tk', m', all, μ c', rfl, F', N', hsz ▸ hm9, c', hn', rfl, hk9, hp9⟩
/-- a statement whose ways meet: one name stored, its value said by R -/
theorem join_one {st : Stmt} {rest : List Stmt} {m : Str → Option Value} {news : List (Addr × Obj)} (x : Str) (R : Int → Prop) (_F : Fr h₀ L s.heap m) (_N : News h₀ L s.heap news)
    (h : wpAny (model prog w) A (exec st env) (fun f s' => f = .next ∧ ∃ h' tk' v t m', s' = { s with heap := h', toks := tk' } ∧ Fr h₀ L h' m' ∧ News h₀ L h' news ∧ m' x = some (.int v t) ∧ (∀ z, z ≠ x → m' z = m z) ∧ R v) E s)
    (k : ∀ h' tk' v t, Fr h₀ L h' (fun z => if z = x then some (.int v t) else m z) → News h₀ L h' news → R v → wpAny (model prog w) A (execs rest env) Q E { s with heap := h', toks := tk' }) :
    wpAny (model prog w) A (execs (st :: rest) env) Q E s :=
  wpAny_execs_cons (wpAny_mono h (fun f s' q => by
    obtain ⟨rfl, h', tk', v, t, m', rfl, F', N', e1, e2, r⟩ := q
    refine k h' tk' v t ?_ N' r
    have e : (fun z => if z = x then some (.int v t) else m z) = m' := funext fun z => by
      by_cases hz : z = x
      · rw [if_pos hz, hz, e1]
      · rw [if_neg hz, e2 z hz]
    rw [e]; exact F') fun _ _ x => x)
noncomputable def JoinEnd {σ : Type} (h₀ : Heap) (L : Addr) (s : Shared) (ps : σ → List (Str × Value)) (R : Heap → σ → Prop) (f : Flow) (s' : Shared) : Prop :=
  f = .next ∧ ∃ c h' tk' m', s' = { s with heap := h', toks := tk' } ∧ Fr h₀ L h' m' ∧ (∀ p ∈ ps c, m' p.1 = some p.2) ∧ R h₀ c
theorem join_end {σ : Type} {ps : σ → List (Str × Value)} {R : Heap → σ → Prop} {h' : Heap} {tk' : Nat} {m' : Str → Option Value} (c : σ) (F : Fr h₀ L h' m') (hk : ∀ p ∈ ps c, m' p.1 = some p.2) (r : R h₀ c) :
    JoinEnd h₀ L s ps R .next { s with heap := h', toks := tk' } := ⟨rfl, c, h', tk', m', rfl, F, hk, r⟩
theorem join_abs {σ : Type} {st : Stmt} {rest : List Stmt} {m : Str → Option Value} (ps : σ → List (Str × Value)) (R : Heap → σ → Prop) (_F : Fr h₀ L s.heap m)
    (h : wpAny (model prog w) A (exec st env) (JoinEnd h₀ L s ps R) E s)
    (k : ∀ c U h' tk', Fr h₀ L h' (kstB U (ps c)) → News h₀ L h' [] → R h₀ c → wpAny (model prog w) A (execs rest env) Q E { s with heap := h', toks := tk' }) :
    wpAny (model prog w) A (execs (st :: rest) env) Q E s :=
  wpAny_execs_cons (wpAny_mono h (fun f s' q => by
    obtain ⟨rfl, c, h', tk', m', rfl, F', e1, r⟩ := q
    exact k c m' h' tk' (fr_self e1 F') News.nil r) fun _ _ x => x)
end
local macro_rules | `(tactic| walk_at "kw end") => `(tactic| ((refine' kw_end (⟨_, _, _, _, _, _, _, _, _, _, _, _, _, _⟩ : RxS) (by k_asm) (by k_asm) ?hn ?hk ?hp ?hm); (case hk => walk_at "it all" <;> ((try dsimp only); exact rfl)); (case hn => walk_at "it all" <;> ((try dsimp only); k_mem)); (case' hp => ((try dsimp only); refine And.intro (by assumption) (And.intro (by assumption) ?_)))))
theorem rx_step {a0 b0 a b R : List Int} {g h s0 s g' h' s' : Int} (P : RPre a0 b0) (I : RInv a0 b0 a b g h s0 s) (hb2 : 2 ≤ b.length) (hR : IsPrem a b R) (hg : g' = lead b)
    (hh : (0 < (a.length : Int) - 1 - (b.length - 1) ∧ h' = (lead b ^ ((a.length : Int) - 1 - (b.length - 1)).toNat).fdiv (h ^ ((a.length : Int) - 1 - (b.length - 1) - 1).toNat)) ∨ (¬ 0 < (a.length : Int) - 1 - (b.length - 1) ∧ h' = h))
    (hs : (((a.length : Int) - 1).fmod 2 = 1 ∧ ((b.length : Int) - 1).fmod 2 = 1) ∧ s' = -s ∨ ¬ (((a.length : Int) - 1).fmod 2 = 1 ∧ ((b.length : Int) - 1).fmod 2 = 1) ∧ s' = s) :
    RInv a0 b0 b (pDiv R (g * h ^ ((a.length : Int) - 1 - (b.length - 1)).toNat)) g' h' s0 s' := (rx_end P I hb2 hR hg hh hs).1
set_option maxHeartbeats 8000000 in
theorem con_row (w : World) (l : Addr) (vs : List Value) (na : Nat) (a0 : List Int) (hi : IntsAre vs a0) (l1 : Addr) (vs1 : List Value) (nb : Nat) (b0 : List Int) (hi1 : IntsAre vs1 b0) (s0 : Int) (t0 : Tok) (hs0 : s0 * s0 = 1) (P : RPre a0 b0) :
    PTake w 141 [.ref l, .ref l1, .int s0 t0] [(l1, listOf (List.toArray vs1) nb), (l, listOf (List.toArray vs) na)] 20 (OutT (s0 * Res a0 b0)) := by
  have hP1 := P.la
  have hP2 := P.lb
  have hP3 := P.ab
  have hP4 := P.a7
  ((unfold PTake; intro dpq9 unq9 gdq9 cnq9 csq9 aq9 ccdq9 clq9 outerq9 A₀q9 baseq9 h₀q9 Lq9 mq9 sq9 pq9 looseq9 meanq9 mgq9 mbq9 Qq9 Eq9 Bq9 Fq9 Xq9 Tq9 hkq9 Nq9 hdq9 huq9 hretq9; revert Bq9 Fq9 Xq9 Tq9 hkq9 Nq9 hdq9 huq9 hretq9; k_fill; intro Bq9 Fq9 Xq9 Tq9 hkq9 Nq9 hdq9 huq9 hretq9; refine wpAny_call ?_); k_dflt ( (refine' code_pT ?k1q34 ?k2q34 ?k3q34 ?k5q34 ?k55q34 ?kAq34 ?kFq34 ?kKq34 ?k6q34 ?k7q34 ?k8q34 ?k9q34 ?kBq34 ?_ ?c2q34 ?c3q34 ?c4q34 ?c5q34; (case kAq34 => exact rfl); (case kFq34 => exact rfl); (case kKq34 => assumption); (case k1q34 => k_asm); (case k2q34 => k_asm); (case k3q34 => k_asm); (case k5q34 => k_asm); (case k55q34 => k_asm); (case k6q34 => k_is); (case k7q34 => k_is); (case k8q34 => ktr_room); (case k9q34 => exact BindsTo.of_eq rfl); (case c5q34 => decide); (case kBq34 => exact locs rfl); (case c2q34 => exact rfl); (case c3q34 => exact rfl); (case c4q34 => exact rfl); k_whole; (rename News _ _ _ _ => kN0); clear kN0; (rename Fr _ _ _ _ => kF0); clear kF0; (rename Frag.In _ _ => kF0); clear kF0;  (rename Top _ _ _ _ _ _ => kF0); clear kF0; (rename Below _ _ _ _ => kF0); clear kF0; intro g' G' L' h' F' N' B' X' T'; (try dsimp only); (try k_fold))))
  k_with_none
  repeat ((fail_if_success (with_reducible show wpAny _ _ (exec (Stmt.While _ _ [] _) _) _ _ _)); first | (k_unfold; (try dsimp only)) | walk1 | (dsimp only; walk1))
  (rename Fr _ _ _ _ => lF')
  (rename News _ _ _ _ => lN')
  refine' kw_while (σ := RxS) (fun c => [(c.bA, listOf (List.toArray c.vb) c.nb), (c.aA, listOf (List.toArray c.va) c.na)]) (fun c => [(Str.ofString "a", .ref c.aA), (Str.ofString "b", .ref c.bA), (Str.ofString "g", .int c.g c.gt), (Str.ofString "h", .int c.h c.ht), (Str.ofString "sign", .int c.s c.st)])
    (fun c => IntsAre c.va c.a ∧ IntsAre c.vb c.b ∧ RInv a0 b0 c.a c.b c.g c.h s0 c.s) (fun c => c.b.length) ⟨l, vs, na, a0, l1, vs1, nb, b0, 1, _, 1, _, s0, t0⟩ lF' lN' ?kn ?kk ⟨hi, hi1, P.start hs0⟩ ?_
  case kk => walk_at "it all" <;> ((try dsimp only); exact rfl)
  case kn => walk_at "it all" <;> ((try dsimp only); k_mem)
  clear lF' lN'
  intro c U h tk hp F N
  obtain ⟨aA, va, na, a, bA, vb, nb, b, g, gt, hh, ht, s, st⟩ := c
  obtain ⟨hiA, hiB, hp⟩ := hp
  dsimp only [kstB] at F N hiA hiB hp ⊢
  have i1 := hp.la
  have i2 := hp.ab
  have i3 := hp.a7
  have i4 := hp.g0
  have i5 := hp.h0
  have i6 := hp.ba
  have i7 := hp.bb
  have i8 := hp.bg
  have i9 := hp.bh
  have i10 := hp.ta
  have i11 := i7.lead
  have i13 : SmlL b := i7.sml (by decide)
  have i14 : Builtin.Int.intBits (b.getD (Int.toNat 0) 0) ≤ 300 := i7.cut _
  have i15 : Sml s := sml_pm hp.s2
  have htb : 2 ≤ b.length → lead b ≠ 0 := fun q => hp.tb.resolve_left (by rintro rfl; simp at q)
  by_cases hb2 : 2 ≤ b.length
  · have htb1 := htb hb2
    (try k_fold)
    repeat ((fail_if_success (with_reducible show wpAny _ _ (execs (Stmt.If _ _ _ _ :: _) _) _ _ _)); first | (k_unfold; (try dsimp only)) | walk1 | (dsimp only; walk1))
    (rename News _ _ _ _ => N9)
    (rename Fr _ _ _ _ => F9)
    refine' join_one (Str.ofString "sign") (fun v => (((a.length : Int) - 1).fmod 2 = 1 ∧ ((b.length : Int) - 1).fmod 2 = 1) ∧ v = -s ∨ ¬ (((a.length : Int) - 1).fmod 2 = 1 ∧ ((b.length : Int) - 1).fmod 2 = 1) ∧ v = s) F9 N9 ?j1 ?j2
    case j1 =>
      (try k_fold)
      repeat' (first | (k_unfold; (try dsimp only)) | (k_end; (try dsimp only); exact ⟨rfl, _, _, _, _, _, rfl, by k_asm, by k_asm, by exact rfl, fun z hz => by first | rfl | simp [hz], by first | exact .inl ⟨⟨by assumption, by assumption⟩, rfl⟩ | exact .inr ⟨fun q => by first | exact absurd q.1 (by assumption) | exact absurd q.2 (by assumption), rfl⟩⟩) | walk1 | (dsimp only; walk1))
    clear F9 N9
    intro h' tk' v t F9 N9 hv
    (try dsimp only)
    (try k_fold)
    repeat' ((fail_if_success (with_reducible show KwEnd _ _ _ _ _ _ _ _ _)); (first | (k_unfold; (try dsimp only)) | walk1 | (dsimp only; walk1)))
    all_goals (try dsimp only)
    all_goals walk_at "kw end"
    any_goals first
      | ((try dsimp only); rw [pDiv_length]; assumption)
      | exact rx_step P hp hb2 (by assumption) rfl (by first | exact .inl ⟨by walk_at "p idx", rfl⟩ | exact .inr ⟨by walk_at "p idx", rfl⟩) hv
  · (try k_fold)
    repeat' (first | (k_unfold; (try dsimp only)) | walk1 | (dsimp only; walk1))
    all_goals ((try (k_unfold; (try dsimp only))); (try dsimp only); (try (k_unfold; (try dsimp only))); (rename (∀ r h' tk', _ → OutT _ r → _) => hret9); (refine' endT hret9 (by k_asm) (by k_asm) ?_); first | exact rx_fin hp (by walk_at "p idx") | (rw [hp.nil (of_decide_eq_true (by assumption))]; simp))
section
/-! the content, and the resultant of what is left -/
theorem foldl_gcd_dvd : ∀ (l : List Int) (g : Int), (l.foldl (fun g x => (Int.gcd g x : Int)) g ∣ g) ∧ ∀ x ∈ l, l.foldl (fun g x => (Int.gcd g x : Int)) g ∣ x
  | [], g => ⟨Int.dvd_refl _, fun _ h => nomatch h⟩
  | y :: l, g => by
    obtain ⟨h1, h2⟩ := foldl_gcd_dvd l (Int.gcd g y)
    refine ⟨Int.dvd_trans h1 (Int.gcd_dvd_left ..), fun x hx => ?_⟩
    rcases List.mem_cons.mp hx with rfl | hx
    · exact Int.dvd_trans h1 (Int.gcd_dvd_right ..)
    · exact h2 x hx
theorem foldl_gcd_nonneg : ∀ (l : List Int) (g : Int), 0 ≤ g → 0 ≤ l.foldl (fun g x => (Int.gcd g x : Int)) g
  | [], _, h => h
  | _ :: l, _, _ => foldl_gcd_nonneg l _ (Int.natCast_nonneg _)
theorem content_dvd {a : List Int} (i : Nat) : content a ∣ cut a i := by
  by_cases h : i < a.length
  · have := (foldl_gcd_dvd a 0).2 _ (List.getElem_mem h)
    rw [show cut a i = a[i] from by simp [cut, h]]; exact this
  · rw [cut_high (by lia)]; exact Int.dvd_zero _
theorem content_nonneg (a : List Int) : 0 ≤ content a := foldl_gcd_nonneg a 0 (Int.le_refl _)
theorem content_ne {a : List Int} (h : lead a ≠ 0) : content a ≠ 0 := by
  intro e
  have := content_dvd (a := a) (a.length - 1)
  rw [e] at this
  exact h (Int.zero_dvd.mp this)
theorem content_le {a : List Int} (h : lead a ≠ 0) : (content a).natAbs ≤ (lead a).natAbs := Nat.le_of_dvd (Int.natAbs_pos.mpr h) (Int.natAbs_dvd_natAbs.mpr (content_dvd _))
theorem cut_content {a : List Int} (h : lead a ≠ 0) : cut a = rsm (content a) (cut (pDiv a (content a))) := by
  funext i
  show _ = content a * _
  rw [cut_pDiv]
  obtain ⟨k, e⟩ := content_dvd (a := a) i
  rw [e, Int.mul_fdiv_cancel_left _ (content_ne h)]
theorem cut_div_le {a : List Int} {M : Nat} (hM : ∀ i, (cut a i).natAbs ≤ M) (d : Int) (i : Nat) : (cut (pDiv a d) i).natAbs ≤ M := by
  rw [cut_pDiv]
  have : ((cut a i).fdiv d).natAbs ≤ (cut a i).natAbs := PySem.natAbs_fdiv_le _ _
  exact Nat.le_trans this (hM i)
theorem lead_div {a : List Int} (h : lead a ≠ 0) : lead (pDiv a (content a)) ≠ 0 := by
  intro e
  apply h
  have := congrFun (cut_content h) (a.length - 1)
  unfold lead at e ⊢
  rw [pDiv_length] at e
  rw [this]; show _ * _ = _; rw [e]; simp
theorem res_content {a b : List Int} (ha : 2 ≤ a.length) (ta : lead a ≠ 0) (tb : lead b ≠ 0) : Rl a b = content a ^ (b.length - 1) * content b ^ (a.length - 1) * Res (pDiv a (content a)) (pDiv b (content b)) := by
  have e : Res (pDiv a (content a)) (pDiv b (content b)) = Rs (a.length - 1) (b.length - 1) (cut (pDiv a (content a))) (cut (pDiv b (content b))) := by
    unfold Res; rw [pDiv_length, pDiv_length]; rfl
  rw [e]
  unfold Rl
  have h1 : cut a = rsm (content a) (cut (pDiv a (content a))) := cut_content ta
  have h2 : cut b = rsm (content b) (cut (pDiv b (content b))) := cut_content tb
  generalize hca : content a = x at h1 ⊢
  generalize hcb : content b = y at h2 ⊢
  rw [h1, h2, Rs_homog1 (by lia), Rs_homog2 (by lia), Int.mul_assoc]
theorem Rl_swap {a b : List Int} (h : 2 ≤ a.length) : Rl b a = sg ((a.length - 1) * (b.length - 1)) * Rl a b := Rs_swap (by lia) _ _

/-- what resultant takes -/
structure SPre (a b : List Int) : Prop where
  la : 2 ≤ a.length
  lb : 0 < b.length
  sum : a.length + b.length ≤ 13
  a7 : a.length ≤ 7
  b7 : b.length ≤ 7
  ta : lead a ≠ 0
  tb : lead b ≠ 0
  ba : ∀ k, (cut a k).natAbs ≤ 2 ^ 20
  bb : ∀ k, (cut b k).natAbs ≤ 2 ^ 20
theorem SPre.rpre {a b : List Int} (P : SPre a b) (h : b.length ≤ a.length) : RPre (pDiv a (content a)) (pDiv b (content b)) := by
  have := P.la; have := P.lb; have := P.sum; have := P.a7
  refine ⟨?_, ?_, ?_, ?_, lead_div P.ta, lead_div P.tb, cut_div_le P.ba _, cut_div_le P.bb _, ?_⟩ <;> simp only [pDiv_length] <;> omega
theorem SPre.swap {a b : List Int} (P : SPre a b) (h : a.length < b.length) : SPre b a := by
  have := P.la; have := P.lb; have := P.sum; have := P.a7; have := P.b7
  exact ⟨by lia, by lia, by lia, by lia, by lia, P.tb, P.ta, P.bb, P.ba⟩
end
theorem sml_res {a b : List Int} {s : Int} (P : RPre a b) (hs : s * s = 1) : Sml (s * Res a b) := by
  have h := Sj0_bound (j := 0) (κ := 0) P (by have := P.la; have := P.lb; omega) (Nat.zero_le _) (Nat.zero_le _)
  refine Nat.le_trans (bits_of_lt (x := s * Res a b) ?_) (by decide)
  rw [natAbs_pm hs]; exact h
theorem bits_content {a : List Int} (ha : ∀ k, (cut a k).natAbs ≤ 2 ^ 20) (h : lead a ≠ 0) : Builtin.Int.intBits (content a) ≤ 300 :=
  bits_of_lt (Nat.lt_of_le_of_lt (Nat.le_trans (content_le h) (ha _)) (by decide +kernel))
theorem bits_20 {a : List Int} (ha : ∀ k, (cut a k).natAbs ≤ 2 ^ 20) : BL 300 a := BL_of fun k => Nat.lt_of_le_of_lt (ha k) (by decide +kernel)
theorem sml_pp {x y m n : Int} (bx : Builtin.Int.intBits x ≤ 300) (bY : Builtin.Int.intBits y ≤ 300) (hm : m ≤ 8) (hn : n ≤ 8) : Sml (x ^ m.toNat * y ^ n.toNat) := Nat.le_trans (bits_mul (bits_pow bx hm) (bits_pow bY hn)) (by decide)
local macro_rules | `(tactic| walk_at "p bits") => `(tactic| (exact Nat.le_trans (m := 300) (by assumption) (by decide)))
local macro_rules | `(tactic| walk_at "p rpre") => `(tactic| first | exact SPre.rpre (by assumption) (by omega) | exact SPre.rpre (SPre.swap (by assumption) (by omega)) (by omega))
local macro_rules | `(tactic| walk_at "p small") => `(tactic| first | (exact sml_pp (by assumption) (by assumption) (by omega) (by omega)) | (refine sml_res ?zP (by first | rfl | assumption); case zP => walk_at "p rpre"))
local macro_rules | `(tactic| walk_at "call ref") => `(tactic| (k_here; k_dflt (refine' PCon.useI (con_zcontent _ _ _ _ ?hi ?hlen) ?k1 ?k2 ?k3 ?k4 ?k5 ?kK ?pre ?kd ?ku ?_; (case pre => walk_at "p list"); (case hi => walk_at "p ints"); (case hlen => walk_at "p len"); walk_at "p sides"); walk_at "p afterI"))
local macro_rules | `(tactic| walk_at "call ref") => `(tactic| (k_here; k_dflt (refine' PTake.use (con_row _ _ _ _ _ ?hi _ _ _ _ ?hi1 _ _ ?hs ?zP) ?k1 ?k2 ?k3 ?k4 ?k5 ?kK ?zs ?kd ?ku ?_; (case k1 => k_asm); (case k2 => k_asm); (case k3 => k_asm); (case k4 => k_asm); (case k5 => k_asm); (case zs => refine mem2 ?y1 ?y2; (case y1 => k_mem); (case y2 => k_mem)); (case hi => walk_at "p ints"); (case hi1 => walk_at "p ints"); (case hs => first | rfl | assumption); (case zP => walk_at "p rpre"); (case kK => first | exact rfl | assumption); (case kd => ktr_room); (case ku => ktr_units)); walk_at "p afterI"))
theorem res_end1 {a b : List Int} (P : SPre a b) : content a ^ ((b.length : Int) - 1).toNat * content b ^ ((a.length : Int) - 1).toNat * (1 * Res (pDiv a (content a)) (pDiv b (content b))) = Rl a b := by
  have := P.la; have := P.lb
  rw [res_content P.la P.ta P.tb, show ((b.length : Int) - 1).toNat = b.length - 1 by omega, show ((a.length : Int) - 1).toNat = a.length - 1 by omega, Int.one_mul]
theorem res_end2 {a b : List Int} {s : Int} (P : SPre a b) (h2 : a.length < b.length)
    (hs : ((((b.length : Int) - 1).fmod 2 = 1 ∧ ((a.length : Int) - 1).fmod 2 = 1) ∧ s = -1) ∨ (¬ (((b.length : Int) - 1).fmod 2 = 1 ∧ ((a.length : Int) - 1).fmod 2 = 1) ∧ s = 1)) :
    content b ^ ((a.length : Int) - 1).toNat * content a ^ ((b.length : Int) - 1).toNat * (s * Res (pDiv b (content b)) (pDiv a (content a))) = Rl a b := by
  have h1 := P.la; have := P.lb
  have Q := P.swap h2
  have e : s = sg ((b.length - 1) * (a.length - 1)) := by
    rw [sg_odd]
    simp only [Int.fmod_eq_emod_of_nonneg _ (show (0 : Int) ≤ 2 by decide)] at hs
    rcases hs with ⟨q, e⟩ | ⟨q, e⟩
    · rw [if_pos (by omega), e]
    · rw [if_neg (by omega), e]
  have f := res_end1 Q
  rw [Int.one_mul] at f
  rw [Rl_swap (a := b) (b := a) (by omega), ← f, ← e]
  grind
structure RzS where
  x : Addr
  vx : List Value
  X : List Int
  y : Addr
  vy : List Value
  Y : List Int
  s : Int
  t : Tok
structure RzR (h₀ : Heap) (a b : List Int) (c : RzS) : Prop where
  lx : h₀.IsList c.x c.vx.toArray
  ly : h₀.IsList c.y c.vy.toArray
  ix : IntsAre c.vx c.X
  iy : IntsAre c.vy c.Y
  P : SPre c.X c.Y
  le : c.Y.length ≤ c.X.length
  ss : c.s * c.s = 1
  fin : content c.X ^ ((c.Y.length : Int) - 1).toNat * content c.Y ^ ((c.X.length : Int) - 1).toNat * (c.s * Res (pDiv c.X (content c.X)) (pDiv c.Y (content c.Y))) = Rl a b
theorem rz_same {h : Heap} {l l1 : Addr} {vs vs1 : List Value} {a b : List Int} {t : Tok} (lx : h.IsList l vs.toArray) (ly : h.IsList l1 vs1.toArray) (ix : IntsAre vs a) (iy : IntsAre vs1 b) (P : SPre a b) (hl : b.length ≤ a.length) : RzR h a b ⟨l, vs, a, l1, vs1, b, 1, t⟩ :=
  ⟨lx, ly, ix, iy, P, hl, rfl, res_end1 P⟩
theorem rz_swap {h : Heap} {l l1 : Addr} {vs vs1 : List Value} {a b : List Int} {s : Int} {t : Tok} (lx : h.IsList l vs.toArray) (ly : h.IsList l1 vs1.toArray) (ix : IntsAre vs a) (iy : IntsAre vs1 b) (P : SPre a b) (hl : a.length < b.length)
    (hs : ((((b.length : Int) - 1).fmod 2 = 1 ∧ ((a.length : Int) - 1).fmod 2 = 1) ∧ s = -1) ∨ (¬ (((b.length : Int) - 1).fmod 2 = 1 ∧ ((a.length : Int) - 1).fmod 2 = 1) ∧ s = 1)) : RzR h a b ⟨l1, vs1, b, l, vs, a, s, t⟩ :=
  ⟨ly, lx, iy, ix, P.swap hl, Nat.le_of_lt hl, by rcases hs with ⟨_, e⟩ | ⟨_, e⟩ <;> rw [e] <;> rfl, res_end2 P hl hs⟩
local macro_rules | `(tactic| walk_at "rz join") => `(tactic| ((try dsimp only); (refine' join_end (⟨_, _, _, _, _, _, _, _⟩ : RzS) (by k_asm) ?hk ?hr); (case hk => walk_at "it all" <;> ((try dsimp only); exact rfl))))
set_option maxHeartbeats 8000000 in
theorem con_res (w : World) (l : Addr) (vs : List Value) (a : List Int) (hi : IntsAre vs a) (l1 : Addr) (vs1 : List Value) (b : List Int) (hi1 : IntsAre vs1 b) (P : SPre a b) :
    PCon w 148 [.ref l, .ref l1] (fun h => h.IsList l vs.toArray ∧ h.IsList l1 vs1.toArray) 24 (OutI (Rl a b)) := by
  have q1 := P.la
  have q2 := P.lb
  have q3 := P.a7
  have q4 := P.b7
  have q11 : a ≠ [] := by rintro rfl; simp at q1
  have q12 : b ≠ [] := by rintro rfl; simp at q2
  ((unfold PCon; intro dpq9 unq9 gdq9 cnq9 csq9 aq9 ccdq9 clq9 outerq9 A₀q9 baseq9 h₀q9 Lq9 mq9 sq9 pq9 looseq9 meanq9 mgq9 mbq9 Qq9 Eq9 Bq9 Fq9 Xq9 Tq9 hkq9 hpreq9 hdq9 huq9 hretq9; revert Bq9 Fq9 Xq9 Tq9 hkq9 hpreq9 hdq9 huq9 hretq9; k_fill; intro Bq9 Fq9 Xq9 Tq9 hkq9 hpreq9 hdq9 huq9 hretq9; refine wpAny_call ?_); k_dflt (first | (refine' code_p ?k1q36 ?k2q36 ?k3q36 ?k5q36 ?kAq36 ?kFq36 ?kKq36 ?k6q36 ?k7q36 ?k8q36 ?k9q36 ?kBq36 ?_ ?c2q36 ?c3q36 ?c4q36 ?c5q36; (case kAq36 => exact rfl); (case kFq36 => exact rfl); (case kKq36 => assumption); (case k1q36 => k_asm); (case k2q36 => k_asm); (case k3q36 => k_asm); (case k5q36 => k_asm); (case k6q36 => k_is); (case k7q36 => k_is); (case k8q36 => ktr_room); (case k9q36 => exact BindsTo.of_eq rfl); (case c5q36 => decide); (case kBq36 => exact locs rfl); (case c2q36 => exact rfl); (case c3q36 => exact rfl); (case c4q36 => exact rfl); k_whole; (rename Fr _ _ _ _ => kF0); clear kF0; (rename Frag.In _ _ => kF0); clear kF0;  (rename Top _ _ _ _ _ _ => kF0); clear kF0; (rename Below _ _ _ _ => kF0); clear kF0; intro L' h' F' N' B' X' T'; (try dsimp only); (try k_fold)) | (refine' code_pC ?k1q36 ?k2q36 ?k3q36 ?k5q36 ?kAq36 ?kFq36 ?kKq36 ?k6q36 ?k7q36 ?k8q36 ?k9q36 ?kBq36 ?kDq36 ?_ ?c2q36 ?c3q36 ?c4q36; (case kAq36 => exact rfl); (case kFq36 => exact rfl); (case kKq36 => assumption); (case k1q36 => k_asm); (case k2q36 => k_asm); (case k3q36 => k_asm); (case k5q36 => k_asm); (case k6q36 => k_is); (case k7q36 => k_is); (case k8q36 => ktr_room); (case k9q36 => exact BindsTo.of_eq rfl); (case kBq36 => exact rfl); (case kDq36 => decide +kernel); (case c2q36 => exact rfl); (case c3q36 => exact rfl); (case c4q36 => exact rfl); k_whole; (rename Fr _ _ _ _ => kF0); clear kF0; (rename Frag.In _ _ => kF0); clear kF0;  (rename Top _ _ _ _ _ _ => kF0); clear kF0; (rename Below _ _ _ _ => kF0); clear kF0; intro L' h' tk' cells' F' N' Y' B' X' T'; k_cells Y'; (try simp only [List.cons_append, List.nil_append] at N'); (try dsimp only); (try k_fold))))
  k_with_none
  (rename _ ∧ _ => hp9; obtain ⟨hp8, hp9⟩ := hp9)
  repeat ((fail_if_success (with_reducible show wpAny _ _ (execs [Stmt.If _ _ _ _, _, _, _] _) _ _ _)); first | (k_unfold; (try dsimp only)) | walk1 | (dsimp only; walk1))
  (rename Fr _ _ _ _ => F9)
  refine' join_abs (σ := RzS) (fun c => [(Str.ofString "a", .ref c.x), (Str.ofString "b", .ref c.y), (Str.ofString "sign", .int c.s c.t)]) (fun h c => RzR h a b c) F9 ?j1 ?j2
  case j1 =>
    repeat' ((fail_if_success (with_reducible show JoinEnd _ _ _ _ _ _ _)); first | (k_unfold; (try dsimp only)) | walk1 | (dsimp only; walk1))
    all_goals walk_at "rz join"
    any_goals first
      | exact rz_same hp8 hp9 hi hi1 P (by omega)
      | exact rz_swap hp8 hp9 hi hi1 P (by omega) (.inl ⟨⟨by assumption, by assumption⟩, rfl⟩)
      | exact rz_swap hp8 hp9 hi hi1 P (by omega) (.inr ⟨fun q => by first | exact absurd q.1 (by assumption) | exact absurd q.2 (by assumption), rfl⟩)
  clear F9
  intro c U h' tk' F9 N9 hR
  obtain ⟨x, vx, X, y, vy, Y, s, t⟩ := c
  obtain ⟨lx, ly, ix, iy, Q, le, ss, fin⟩ := hR
  dsimp only [kstB] at F9 lx ly ix iy Q le ss fin ⊢
  have r1 := Q.la
  have r2 := Q.lb
  have r3 := Q.a7
  have r4 := Q.b7
  have q5 := content_ne Q.ta
  have q6 := content_ne Q.tb
  have q7 := bits_content Q.ba Q.ta
  have q8 := bits_content Q.bb Q.tb
  have q9 : SmlL X := (bits_20 Q.ba).sml (by decide)
  have q10 : SmlL Y := (bits_20 Q.bb).sml (by decide)
  (try k_fold)
  k_steps
  all_goals (first | ((try (k_unfold; (try dsimp only))); (try dsimp only); (try (k_unfold; (try dsimp only))); ((rename (∀ r h' tk', Grows _ h' → OutE _ _ h' r → _) => hret9); (refine' endE hret9 (by k_asm) (by k_asm) (by k_mem) (by assumption) ?_))) | ((try (k_unfold; (try dsimp only))); (try dsimp only); (try (k_unfold; (try dsimp only))); (first | ((rename (∀ r h' tk', Grows _ h' → OutL _ _ h' r → _) => hret9); (first | (refine' endL hret9 (by k_asm) (by k_asm) (by k_mem) (by assumption) ?_) | (refine' endL hret9 (by k_asm) (by k_asm) (by k_mem) IntsAre.nil ?_) | (refine' endP hret9 (by k_asm) (by assumption) (by assumption) (by assumption) ?_))) | ((rename (∀ r h' tk', Grows _ h' → OutI _ _ h' r → _) => hret9); (refine' endI hret9 (by k_asm) ?_)))))
  exact fin
theorem deriveL_length (f : List Int) : (deriveL f).length = f.length - 1 := by simp [deriveL]
theorem cut_derive (f : List Int) : cut (deriveL f) = dz (cut f) := by
  funext t
  unfold deriveL dz cut
  simp only [List.getD_eq_getElem?_getD, List.getElem?_drop, List.getElem?_map, List.getElem?_zipIdx]
  rw [Nat.add_comm 1 t]
  cases h : f[t + 1]? with
  | none => simp
  | some x => simp; grind
/-- what discriminant takes -/
structure DPre (f : List Int) : Prop where
  lo : 2 ≤ f.length
  hi : f.length ≤ 7
  ld : lead f ≠ 0
  bd : ∀ k, (cut f k).natAbs ≤ 2 ^ 17
theorem DPre.spre {f : List Int} (P : DPre f) : SPre f (deriveL f) := by
  have h1 := P.lo; have h2 := P.hi
  have hl := deriveL_length f
  refine ⟨h1, by omega, by omega, by omega, by omega, P.ld, ?_, fun k => Nat.le_trans (P.bd k) (by decide), fun k => ?_⟩
  · unfold lead; rw [cut_derive, hl]
    show ((f.length - 1 - 1 : Nat) + 1 : Int) * cut f (f.length - 1 - 1 + 1) ≠ 0
    refine Int.mul_ne_zero (by omega) ?_
    rw [show f.length - 1 - 1 + 1 = f.length - 1 by omega]; exact P.ld
  · rw [cut_derive]
    show (((k : Nat) + 1 : Int) * cut f (k + 1)).natAbs ≤ _
    by_cases hk : k + 1 < f.length
    · rw [Int.natAbs_mul]
      refine Nat.le_trans (Nat.mul_le_mul (show ((k : Int) + 1).natAbs ≤ 8 by omega) (P.bd (k + 1))) (by decide)
    · rw [cut_high (by omega)]; simp
theorem Dl_eq {f : List Int} (P : DPre f) : Dl f = sg ((f.length - 1) * (f.length - 1 - 1) / 2) * (Rl f (deriveL f)).fdiv (lead f) := by
  unfold Dl Dc Rl
  rw [deriveL_length, cut_derive]; rfl
theorem disc_end {f : List Int} {x : Int} (P : DPre f)
    (hs : ((((f.length : Int) - 1) * ((f.length : Int) - 1 - 1)).fdiv 2).fmod 2 = 1 ∧ x = - (Rl f (deriveL f)).fdiv (lead f) ∨ ¬ ((((f.length : Int) - 1) * ((f.length : Int) - 1 - 1)).fdiv 2).fmod 2 = 1 ∧ x = (Rl f (deriveL f)).fdiv (lead f)) : x = Dl f := by
  rw [Dl_eq P]
  have h1 := P.lo; have h2 := P.hi
  rcases (show f.length = 2 ∨ f.length = 3 ∨ f.length = 4 ∨ f.length = 5 ∨ f.length = 6 ∨ f.length = 7 by omega) with e | e | e | e | e | e <;> rw [e] at hs ⊢ <;> rcases hs with ⟨q, e⟩ | ⟨q, e⟩ <;> rw [e] <;> first | exact absurd q (by decide) | (simp [sg]; done)
theorem lead_sml {f : List Int} (P : DPre f) : Builtin.Int.intBits (lead f) ≤ 300 := bits_of_lt (Nat.lt_of_le_of_lt (P.bd _) (by decide +kernel))
local macro_rules | `(tactic| walk_at "call ref") => `(tactic| (k_here; k_dflt (refine' PCon.useI (con_res _ _ _ _ ?hi _ _ _ ?hi1 ?zP) ?k1 ?k2 ?k3 ?k4 ?k5 ?kK (And.intro ?pre ?pre1) ?kd ?ku ?_; (case pre => walk_at "p list"); (case pre1 => walk_at "p list"); (case hi => walk_at "p ints"); (case hi1 => walk_at "p ints"); (case zP => walk_at "p spre"); walk_at "p sides"); walk_at "p afterI"))
local macro_rules | `(tactic| walk_at "call ref") => `(tactic| (k_here; k_dflt (refine' PCon.useL (con_zderive _ _ _ _ ?hi ?hlen ?hs) ?k1 ?k2 ?k3 ?k4 ?k5 ?kK ?pre ?kd ?ku ?_; (case pre => walk_at "p list"); (case hi => walk_at "p ints"); (case hlen => walk_at "p len"); (case hs => assumption); walk_at "p sides"); walk_at "p afterL"))
local macro_rules | `(tactic| walk_at "p spre") => `(tactic| exact DPre.spre (by assumption))
set_option maxHeartbeats 8000000 in
theorem con_disc (w : World) (l : Addr) (vs : List Value) (f : List Int) (hi : IntsAre vs f) (P : DPre f) :
    PCon w 155 [.ref l] (fun h => h.IsList l vs.toArray) 26 (OutI (Dl f)) := by
  have q1 := P.lo
  have q2 := P.hi
  have q3 := P.ld
  have q4 := lead_sml P
  have q5 : SmlL f := fun x hx => by
    have := (BL_of (a := f) fun k => Nat.lt_of_le_of_lt (P.bd k) (by decide +kernel)) x hx
    exact Nat.le_trans this (by decide)
  ((unfold PCon; intro dpq9 unq9 gdq9 cnq9 csq9 aq9 ccdq9 clq9 outerq9 A₀q9 baseq9 h₀q9 Lq9 mq9 sq9 pq9 looseq9 meanq9 mgq9 mbq9 Qq9 Eq9 Bq9 Fq9 Xq9 Tq9 hkq9 hpreq9 hdq9 huq9 hretq9; revert Bq9 Fq9 Xq9 Tq9 hkq9 hpreq9 hdq9 huq9 hretq9; k_fill; intro Bq9 Fq9 Xq9 Tq9 hkq9 hpreq9 hdq9 huq9 hretq9; refine wpAny_call ?_); k_dflt (first | (refine' code_p ?k1q38 ?k2q38 ?k3q38 ?k5q38 ?kAq38 ?kFq38 ?kKq38 ?k6q38 ?k7q38 ?k8q38 ?k9q38 ?kBq38 ?_ ?c2q38 ?c3q38 ?c4q38 ?c5q38; (case kAq38 => exact rfl); (case kFq38 => exact rfl); (case kKq38 => assumption); (case k1q38 => k_asm); (case k2q38 => k_asm); (case k3q38 => k_asm); (case k5q38 => k_asm); (case k6q38 => k_is); (case k7q38 => k_is); (case k8q38 => ktr_room); (case k9q38 => exact BindsTo.of_eq rfl); (case c5q38 => decide); (case kBq38 => exact locs rfl); (case c2q38 => exact rfl); (case c3q38 => exact rfl); (case c4q38 => exact rfl); k_whole; (rename Fr _ _ _ _ => kF0); clear kF0; (rename Frag.In _ _ => kF0); clear kF0;  (rename Top _ _ _ _ _ _ => kF0); clear kF0; (rename Below _ _ _ _ => kF0); clear kF0; intro L' h' F' N' B' X' T'; (try dsimp only); (try k_fold)) | (refine' code_pC ?k1q38 ?k2q38 ?k3q38 ?k5q38 ?kAq38 ?kFq38 ?kKq38 ?k6q38 ?k7q38 ?k8q38 ?k9q38 ?kBq38 ?kDq38 ?_ ?c2q38 ?c3q38 ?c4q38; (case kAq38 => exact rfl); (case kFq38 => exact rfl); (case kKq38 => assumption); (case k1q38 => k_asm); (case k2q38 => k_asm); (case k3q38 => k_asm); (case k5q38 => k_asm); (case k6q38 => k_is); (case k7q38 => k_is); (case k8q38 => ktr_room); (case k9q38 => exact BindsTo.of_eq rfl); (case kBq38 => exact rfl); (case kDq38 => decide +kernel); (case c2q38 => exact rfl); (case c3q38 => exact rfl); (case c4q38 => exact rfl); k_whole; (rename Fr _ _ _ _ => kF0); clear kF0; (rename Frag.In _ _ => kF0); clear kF0;  (rename Top _ _ _ _ _ _ => kF0); clear kF0; (rename Below _ _ _ _ => kF0); clear kF0; intro L' h' tk' cells' F' N' Y' B' X' T'; k_cells Y'; (try simp only [List.cons_append, List.nil_append] at N'); (try dsimp only); (try k_fold))))
  k_with_none
  k_steps
  all_goals (first | ((try (k_unfold; (try dsimp only))); (try dsimp only); (try (k_unfold; (try dsimp only))); ((rename (∀ r h' tk', Grows _ h' → OutE _ _ h' r → _) => hret9); (refine' endE hret9 (by k_asm) (by k_asm) (by k_mem) (by assumption) ?_))) | ((try (k_unfold; (try dsimp only))); (try dsimp only); (try (k_unfold; (try dsimp only))); (first | ((rename (∀ r h' tk', Grows _ h' → OutL _ _ h' r → _) => hret9); (first | (refine' endL hret9 (by k_asm) (by k_asm) (by k_mem) (by assumption) ?_) | (refine' endL hret9 (by k_asm) (by k_asm) (by k_mem) IntsAre.nil ?_) | (refine' endP hret9 (by k_asm) (by assumption) (by assumption) (by assumption) ?_))) | ((rename (∀ r h' tk', Grows _ h' → OutI _ _ h' r → _) => hret9); (refine' endI hret9 (by k_asm) ?_)))))
  all_goals first
    | exact disc_end P (.inl ⟨by assumption, rfl⟩)
    | exact disc_end P (.inr ⟨by assumption, rfl⟩)
/-! a contract that takes objects of the caller's ledger into its own and leaves them as they stood -/
noncomputable def PHold (w : World) (f : Addr) (args : List Value) (hid : List (Addr × Obj)) (D : Nat) (out : Heap → Heap → Value → Prop) : Prop :=
  ∀ (dp un : Nat) (gd : Option (List Code)) (cn : Str) (cs : Scope) (a : Addr) (ccd : Value) (cl : List (Str × Addr)) (outer : List Env) (A₀ : Around) (base h₀ : Heap) (L : Addr) (m : Str → Option Value) (s : Shared)
    (p : Program) (loose : List Str) (mean : ExcName → Option Value) (mg mb : Str → Option Value) (Q E : Value → Shared → Prop),
    Below A₀ base outer h₀ → Fr h₀ L s.heap m → (hd0.heap_1 w.params).In h₀ → Top p loose mean mg mb h₀ → cs.kind = .function → News h₀ L s.heap hid → dp + D < recursionLimit → un + 8 * D < cLine →
    (∀ r h' tk', Grows s.heap h' → out s.heap h' r → Q r { s with heap := h', toks := tk' }) →
    wpAny (model PySem.Challenge.rw_sa0085_01.row.prog w) (ktrTop dp un gd cn cs L a ccd cl outer) (call (.ref f) args) Q E s
theorem hold_of {h₀ h : Heap} {L : Addr} {news : List (Addr × Obj)} (N : News h₀ L h news) : ∀ q ∈ news, h.get? q.1 = some q.2 := fun q hq => (N q hq).1
section
variable {prog : Program} {w : World} {A₀ A : Around} {s : Shared} {K : Frag} {base h₀ : Heap} {outer : List Env} {L : Addr} {m mg mb : Str → Option Value} {env : Env} {p : Program} {loose : List Str} {mean : ExcName → Option Value}
  {R : Result → Shared → Prop} {name qual : Str} {params : Arguments} {body : List Stmt} {scope : Scope} {dV kV doc pm cdv ct oc : Value} {an od : Option Addr} {osl : Array (Option Value)} {f : Addr} {args : Args} {binds : List (Str × Value)} {hid : List (Addr × Obj)}
theorem code_pTC (B : Below A₀ base outer h₀) (F : Fr h₀ L s.heap m) (X₀ : K.In h₀) (T : Top p loose mean mg mb h₀) (N : News h₀ L s.heap hid) (hA : A.frames = some (env :: outer)) (hf : env.frame = some L) (hke : env.scope.kind = .function)
    (ho : K.lookup f = some ⟨oc, od, .func (fnOf name qual params body scope dV kV doc pm an cdv ct), osl⟩) (hcd : codeIn K cdv qual = true) (hroom : A.depth < recursionLimit)
    (hbind : BindsTo s (fnOf name qual params body scope dV kV doc pm an cdv ct) args binds) (hkind : (binds.all fun y => scope.names.lookup y.1 == some .local || scope.names.lookup y.1 == some .cell) = true)
    (hnd : ((cellsFrom 0 scope.names []).map (·.1)).Nodup)
    (h : ∀ g, KeptBut hid s.heap g → ∀ L' h₁ tk cells, Fr g L' h₁ (bindL (envOfC qual scope L' f cdv).kindOf binds fun _ => none) → News g L' h₁ (cells ++ hid) →
      CellsAre (bindC (envOfC qual scope L' f cdv).kindOf binds fun _ => none) (cellsFrom (L' + 1) scope.names []) cells → (∀ q ∈ hid, @LT.lt Nat _ q.1 L') → Below A base (env :: outer) g → K.In g → Top p loose mean mg mb g →
      wpAny (model prog w) (A.deeper (envOfC qual scope L' f cdv)) (execs body (envOfC qual scope L' f cdv))
        (fun fl s' => R (.ok (.ret (match fl with | .ret v => v | _ => .none))) s')
        (fun e s' => wpAny (model prog w) (A.deeper (envOfC qual scope L' f cdv)) (leaving (envOfC qual scope L' f cdv) e) (fun _ s'' => R (.error e) s'') (fun e' s'' => R (.error e') s'') s')
        { s with heap := h₁, toks := tk })
    (hco : scope.isCoroutine = false) (hgen : scope.isGenerator = false) (hk : scope.kind = .function) : codeAny (model prog w) A (.call (.ref f) args) R s := by
  obtain ⟨_, BG, st, _⟩ := groundX (R := fun _ _ => True) B F N hA hf hke
  refine codeAny_call_function hroom ((X₀.keeps F.keep) _ _ ho) rfl hco hgen rfl (codeRec_of (X₀.keeps F.keep) hcd) (hbind _ _ _ _ ?_)
  refine wpAny_newFunctionEnv_cells hk (kindsX hkind _) fun env' he s' x => ?_
  subst he
  refine ⟨(T.nolimit.keeps F.keep).keeps x.toInCall.keep, codeAny_func ?_⟩
  obtain ⟨h₁, tk, rfl, _⟩ := x.done
  have hk₁ := x.toInCall.keep
  obtain ⟨cells, NC, Y⟩ := Cl.news (h₀ := s.heap) (Nat.le_refl _) fun n c hm => ⟨x.cell n c (lookup_of_mem_nodup (cellsFrom_names scope.names 0 (s.heap.objs.size + 1) [] [] rfl ▸ hnd) hm), x.above n c hm⟩
  refine h _ (fun b o hb e => hideAll_get _ e hb) s.heap.objs.size h₁ tk cells ⟨x.toInCall.ns, fun b o e => hk₁ b o (of_hideAll _ e), Nat.le_of_eq (hideAll_size _ _)⟩ (fun q hq => ?_) Y (fun q hq => Heap.lt_size (N q hq).1) BG (X₀.keeps st) (T.keeps st)
  rcases List.mem_append.mp hq with hq | hq
  · refine ⟨(NC q hq).1, (NC q hq).2.1, ?_⟩
    cases e : (hideAll s.heap (hid.map (·.1))).get? q.1 with
    | none => rfl
    | some o => have := of_hideAll _ e; rw [(NC q hq).2.2] at this; cases this
  · exact ⟨hk₁ _ _ (N q hq).1, Nat.ne_of_lt (Heap.lt_size (N q hq).1), hideAll_none _ (List.mem_map_of_mem hq)⟩
end
section
variable {s : Shared} {L : Addr} {h : Heap} {m : Str → Option Value} {hid news : List (Addr × Obj)} {Q : Value → Shared → Prop} {tk n : Nat} {D : Addr} {vs : List Value} {X ns : List Int}
theorem hold_grows {g : Heap} (G : KeptBut hid s.heap g) (F : Fr g L h m) (N : News g L h news) (hs : ∀ q ∈ hid, q ∈ news) (h0 : ∀ q ∈ hid, s.heap.get? q.1 = some q.2) : Grows s.heap h := fun b o e => by
  by_cases hb : b ∈ hid.map (·.1)
  · obtain ⟨q, hq, rfl⟩ := List.mem_map.mp hb
    rw [h0 q hq] at e; cases e
    exact (N q (hs q hq)).1
  · exact F.keep b o (G b o hb e)
theorem endHL {g : Heap} (hret : ∀ r h' tk', Grows s.heap h' → OutL ns s.heap h' r → Q r { s with heap := h', toks := tk' }) (h0 : ∀ q ∈ hid, s.heap.get? q.1 = some q.2)
    (G : KeptBut hid s.heap g) (F : Fr g L h m) (N : News g L h news) (hs : ∀ q ∈ hid, q ∈ news) (hm : (D, listOf (List.toArray vs) n) ∈ news) (hne : ∀ q ∈ hid, @Ne Nat q.1 D) (hi : IntsAre vs X) (e : X = ns) :
    Q (.ref D) { s with heap := h, toks := tk } := by
  refine hret _ _ _ (hold_grows G F N hs h0) ⟨D, vs, n, rfl, (N _ hm).1, ?_, e ▸ hi⟩
  cases q : s.heap.get? D with
  | none => rfl
  | some o =>
    have := G _ _ (fun hm' => by
      obtain ⟨p, hp, e⟩ := List.mem_map.mp hm'
      exact hne p hp e) q
    rw [(N _ hm).2.2] at this; cases this
end
theorem endHE {s : Shared} {L : Addr} {h : Heap} {m : Str → Option Value} {hid news : List (Addr × Obj)} {Q : Value → Shared → Prop} {tk n : Nat} {D : Addr} {vs : List Value} {X : List Int} {P : List Int → Prop} {g : Heap}
    (hret : ∀ r h' tk', Grows s.heap h' → OutE P s.heap h' r → Q r { s with heap := h', toks := tk' }) (h0 : ∀ q ∈ hid, s.heap.get? q.1 = some q.2)
    (G : KeptBut hid s.heap g) (F : Fr g L h m) (N : News g L h news) (hs : ∀ q ∈ hid, q ∈ news) (hm : (D, listOf (List.toArray vs) n) ∈ news) (hne : ∀ q ∈ hid, @Ne Nat q.1 D) (hi : IntsAre vs X) (e : P X) :
    Q (.ref D) { s with heap := h, toks := tk } :=
  endHL (ns := X) (fun r h' tk' g o => hret r h' tk' g ⟨X, e, o⟩) h0 G F N hs hm hne hi rfl
section
variable {w : World} {f : Addr} {args : List Value} {D : Nat} {dp un : Nat} {gd : Option (List Code)} {cn : Str} {cs : Scope} {a : Addr} {ccd : Value} {cl : List (Str × Addr)} {outer : List Env} {A₀ : Around} {base h₀ : Heap} {L : Addr} {m : Str → Option Value} {s : Shared}
    {p : Program} {loose : List Str} {mean : ExcName → Option Value} {mg mb : Str → Option Value} {Q E : Value → Shared → Prop} {hid news : List (Addr × Obj)} {ns : List Int}
theorem PHold.useL (C : PHold w f args hid D (OutL ns)) (B : Below A₀ base outer h₀) (F : Fr h₀ L s.heap m) (X : (hd0.heap_1 w.params).In h₀) (N : News h₀ L s.heap news) (T : Top p loose mean mg mb h₀) (hk : cs.kind = .function)
    (hs : ∀ q ∈ hid, q ∈ news) (hd : dp + D < recursionLimit) (hu : un + 8 * D < cLine)
    (ret : ∀ d vs n h' tk', Fr h₀ L h' m → News h₀ L h' ((d, listOf (List.toArray vs) n) :: news) → IntsAre vs ns → (∀ q ∈ news, q.1 ≠ d) → Q (.ref d) { s with heap := h', toks := tk' }) :
    wpAny (model PySem.Challenge.rw_sa0085_01.row.prog w) (ktrTop dp un gd cn cs L a ccd cl outer) (call (.ref f) args) Q E s :=
  C _ _ _ _ _ _ _ _ _ _ _ _ _ _ _ _ _ _ _ _ _ _ B F X T hk (fun q hq => N q (hs q hq)) hd hu fun r h' tk' g o => by
    obtain ⟨d, vs, n, rfl, h1, h2, h3⟩ := o
    exact ret d vs n h' tk' (F.keeps g) (news_new F N g h1 h2) h3 fun q hq e => by
      have := (N q hq).1; rw [e, h2] at this; cases this
theorem PHold.useE {P : List Int → Prop} (C : PHold w f args hid D (OutE P)) (B : Below A₀ base outer h₀) (F : Fr h₀ L s.heap m) (X : (hd0.heap_1 w.params).In h₀) (N : News h₀ L s.heap news) (T : Top p loose mean mg mb h₀) (hk : cs.kind = .function)
    (hs : ∀ q ∈ hid, q ∈ news) (hd : dp + D < recursionLimit) (hu : un + 8 * D < cLine)
    (ret : ∀ d vs n ns h' tk', Fr h₀ L h' m → News h₀ L h' ((d, listOf (List.toArray vs) n) :: news) → IntsAre vs ns → P ns → Q (.ref d) { s with heap := h', toks := tk' }) :
    wpAny (model PySem.Challenge.rw_sa0085_01.row.prog w) (ktrTop dp un gd cn cs L a ccd cl outer) (call (.ref f) args) Q E s :=
  C _ _ _ _ _ _ _ _ _ _ _ _ _ _ _ _ _ _ _ _ _ _ B F X T hk (fun q hq => N q (hs q hq)) hd hu fun r h' tk' g o => by
    obtain ⟨ns, hP, d, vs, n, rfl, h1, h2, h3⟩ := o
    exact ret d vs n ns h' tk' (F.keeps g) (news_new F N g h1 h2) h3 hP
end
/-! a for over a list (or its enumerate) of any length, by an invariant -/
theorem allObj_mono : ∀ {ws : List (Addr × String)} {k k' : List (Addr × Obj) → Prop}, AllObj ws k → (∀ its, k its → k' its) → AllObj ws k'
  | [], _, _, h, f => f _ h
  | _ :: _, _, _, h, f => fun o ho => allObj_mono (h o ho) fun _ q => f _ q
noncomputable def ItEnd {σ : Type} (h₀ : Heap) (L : Addr) (s₁ : Shared) (its : List (Addr × Obj)) (Led : σ → List (Addr × Obj)) (ps : σ → List (Str × Value)) (stored : List Str) (m₀ : Str → Option Value) (P : σ → Prop) (s₂ : Shared) : Prop :=
  ∃ (c' : σ) (h' : Heap) (tk : Nat) (m' : Str → Option Value) (all : List (Addr × Obj)), s₂ = { s₁ with heap := h', toks := tk } ∧ Fr h₀ L h' m' ∧ News h₀ L h' all ∧ (∀ q ∈ its, q ∈ all) ∧ (∀ p ∈ Led c', p ∈ all) ∧ (∀ p ∈ Led c', ∀ q ∈ its, p.1 ≠ q.1) ∧
    (∀ p ∈ ps c', m' p.1 = some p.2) ∧ (∀ z, (∀ p ∈ ps c', z ≠ p.1) → stored.contains z = false → m' z = m₀ z) ∧ P c'
theorem it_end {σ : Type} {h₀ : Heap} {L : Addr} {s₁ : Shared} {its all : List (Addr × Obj)} {Led : σ → List (Addr × Obj)} {ps : σ → List (Str × Value)} {stored : List Str} {m₀ m' : Str → Option Value} {P : σ → Prop} {h' : Heap} {tk : Nat} (c' : σ)
    (F : Fr h₀ L h' m') (N : News h₀ L h' all) (hi : ∀ q ∈ its, q ∈ all) (hn : ∀ p ∈ Led c', p ∈ all) (ha : ∀ p ∈ Led c', ∀ q ∈ its, p.1 ≠ q.1)
    (hk : ∀ p ∈ ps c', m' p.1 = some p.2) (hr : ∀ z, (∀ p ∈ ps c', z ≠ p.1) → stored.contains z = false → m' z = m₀ z) (hp : P c') :
    ItEnd h₀ L s₁ its Led ps stored m₀ P { s₁ with heap := h', toks := tk } := ⟨c', h', tk, m', all, rfl, F, N, hi, hn, ha, hk, hr, hp⟩
section
variable {prog : Program} {w : World} {A : Around} {E : Value → Shared → Prop} {s : Shared} {env : Env} {h₀ : Heap} {target : Expr} {body : List Stmt} {Q : Flow → Shared → Prop}
theorem it_rest {σ : Type} {ws : List (Addr × String)} {keep : List (Addr × Obj)} {xs : List Itm} (Led : σ → List (Addr × Obj)) (ps : σ → List (Str × Value)) (stored : List Str) (m₀ : Str → Option Value) (P : Nat → σ → Prop) (hkeep : ∀ c, SubL keep (Led c))
    (turn : ∀ (i : Nat) (a : Itm) (c : σ) (u : Str → Option Value) v h tk, xs[i]? = some a → P i c → a.Is v h → Fr h₀ env.locals h (kstB (fun z => if stored.contains z then u z else m₀ z) (ps c)) → AllObj ws (fun its => News h₀ env.locals h (its ++ Led c) →
      wpAny (model prog w) A (assign target env v) (fun _ s₂ => wpAny (model prog w) A (execs body env)
        (fun f s₃ => match f with | .ret v => Q (.ret v) s₃ | .brk => Q .next s₃ | _ => ItEnd h₀ env.locals { s with heap := h, toks := tk } its Led ps stored m₀ (P (i + 1)) s₃) E s₂) E { s with heap := h, toks := tk }))
    (done : ∀ (c : σ) (u : Str → Option Value) h tk, P xs.length c → Fr h₀ env.locals h (kstB (fun z => if stored.contains z then u z else m₀ z) (ps c)) → News h₀ env.locals h (Led c) → Q .next { s with heap := h, toks := tk }) :
    ∀ (r : List Itm) (i : Nat), (∀ j a, r[j]? = some a → xs[i + j]? = some a) → i + r.length = xs.length → ∀ (c : σ) m news, P i c → (∀ p ∈ ps c, m p.1 = some p.2) → (∀ z, (∀ p ∈ ps c, z ≠ p.1) → stored.contains z = false → m z = m₀ z) → (∀ p ∈ Led c, p ∈ news) →
      ItemsRest prog w A E h₀ env target body Q s ws keep r m news := by
  intro r
  induction r with
  | nil =>
    intro i hx hl c m news hp hk hr hn h tk F N
    refine done c m h tk (by rw [← hl]; exact hp) (ksw_fr hk hr F) fun p hp => N p (hn p hp)
  | cons a r ih =>
    intro i hx hl c m news hp hk hr hn v h tk ha F
    refine allObj_mono (turn i a c m v h tk (by simpa using hx 0 a rfl) hp ha (ksw_fr hk hr F)) fun its q N => ?_
    refine wpAny_mono (q fun p hp => ?_) (fun _ s₂ h₂ => wpAny_mono h₂ (fun f s₃ h₃ => ?_) fun _ _ e => e) fun _ _ e => e
    · rcases List.mem_append.mp hp with hp | hp
      · exact N p (List.mem_append_left _ hp)
      · exact N p (List.mem_append_right _ (hn p hp))
    · have go : ItEnd h₀ env.locals { s with heap := h, toks := tk } its Led ps stored m₀ (P (i + 1)) s₃ → UnrEndW h₀ env.locals { s with heap := h, toks := tk } its (fun m' n' => SubL keep n' ∧ ItemsRest prog w A E h₀ env target body Q s ws keep r m' n') s₃ := by
        rintro ⟨c', h', tk', m', all, rfl, F', N', hi', hn', ha', hk', hr', hp'⟩
        refine ⟨h', tk', m', Led c', rfl, F', fun p hp => ?_, ha', hkeep c', ih (i + 1) (fun j b hb => ?_) (by simp only [List.length_cons] at hl; omega) c' m' (Led c') hp' hk' hr' fun p hp => hp⟩
        · rcases List.mem_append.mp hp with hp | hp
          · exact N' p (hi' p hp)
          · exact N' p (hn' p hp)
        · have := hx (j + 1) b (by simpa using hb)
          rwa [show i + 1 + j = i + (j + 1) by omega]
      cases f with
      | ret v => exact h₃
      | brk => exact h₃
      | next => exact go h₃
      | cont => exact go h₃
theorem it_enum {σ : Type} {elts : List Expr} {k : Nat} {pos : Pos} {l : Addr} {n : Nat} {vs : List Value} {ns : List Int} {news : List (Addr × Obj)} {m₁ : Str → Option Value} (hi : IntsAre vs ns)
    (Led : σ → List (Addr × Obj)) (ps : σ → List (Str × Value)) (stored : List Str) (m₀ : Str → Option Value) (P : Nat → σ → Prop) (c₀ : σ)
    (hh : A.handled = none) (F : Fr h₀ env.locals s.heap m₁) (N : News h₀ env.locals s.heap news) (hm : (l, listOf vs.toArray n) ∈ news) (hkeep : ∀ c, SubL [(l, listOf vs.toArray n)] (Led c))
    (h0 : P 0 c₀) (hk : ∀ p ∈ ps c₀, m₁ p.1 = some p.2) (hr : ∀ z, (∀ p ∈ ps c₀, z ≠ p.1) → stored.contains z = false → m₁ z = m₀ z) (hn : ∀ p ∈ Led c₀, p ∈ news)
    (turn : ∀ (I : Addr), (∀ p ∈ news, p.1 < I) → ∀ (i : Nat) (a : Int) (ta t : Tok) (c : σ) (u : Str → Option Value) T h tk, ns[i]? = some a → P i c → IsTup h T #[.int (i : Int) t, .int a ta] → Fr h₀ env.locals h (kstB (fun z => if stored.contains z then u z else m₀ z) (ps c)) →
      AllObj [(I + 1, "enumerate"), (I, "list_iterator")] (fun its => News h₀ env.locals h (its ++ Led c) →
      wpAny (model prog w) A (assign (.Tuple elts k pos) env (.ref T)) (fun _ s₂ => wpAny (model prog w) A (execs body env)
        (fun f s₃ => match f with | .ret v => Q (.ret v) s₃ | .brk => Q .next s₃ | _ => ItEnd h₀ env.locals { s with heap := h, toks := tk } its Led ps stored m₀ (P (i + 1)) s₃) E s₂) E { s with heap := h, toks := tk }))
    (done : ∀ (c : σ) (u : Str → Option Value) h tk, P ns.length c → Fr h₀ env.locals h (kstB (fun z => if stored.contains z then u z else m₀ z) (ps c)) → News h₀ env.locals h (Led c) → Q .next { s with heap := h, toks := tk }) :
    wpAny (model prog w) A (call (.type "enumerate") [.ref l]) (fun xv s₁ => wpAny (model prog w) A (pyIter xv) (fun it s₂ => TurnsAt prog w A h₀ env (.Tuple elts k pos) body Q E it s₂) E s₁) E s := by
  refine ktu_enum (lo := listOf vs.toArray n) (vs := vs) (xs := enumItems 0 vs) hh F N hm rfl rfl rfl fun I lI => ?_
  refine it_rest Led ps stored m₀ P hkeep (fun i a c u v h tk ha hp hv F' => ?_) (fun c u h tk hp => done c u h tk (by rwa [enumItems_length, hi.length] at hp)) (enumItems 0 vs) 0 (fun j a h => by rwa [Nat.zero_add]) (Nat.zero_add _) c₀ m₁ news h0 hk hr hn
  have hlt : i < vs.length := by
    have := (List.getElem?_eq_some_iff.mp ha).1; rwa [enumItems_length] at this
  have hv' : vs[i]? = some vs[i] := List.getElem?_eq_getElem hlt
  obtain ⟨x, t, ex, hx⟩ := hi.at i _ hv'
  have := enumItems_get vs 0 i hv'
  rw [ha] at this
  obtain rfl := Option.some.inj this
  obtain ⟨T, t', rfl, hT⟩ := hv
  rw [ex] at hT
  exact turn I lI i x t t' c u T h tk hx hp (by simpa using hT) F'
theorem it_list {σ : Type} {l : Addr} {n : Nat} {vs : List Value} {ns : List Int} {news : List (Addr × Obj)} {m₁ : Str → Option Value} (hi : IntsAre vs ns)
    (Led : σ → List (Addr × Obj)) (ps : σ → List (Str × Value)) (stored : List Str) (m₀ : Str → Option Value) (P : Nat → σ → Prop) (c₀ : σ)
    (hh : A.handled = none) (F : Fr h₀ env.locals s.heap m₁) (N : News h₀ env.locals s.heap news) (hm : (l, listOf vs.toArray n) ∈ news) (hkeep : ∀ c, SubL [(l, listOf vs.toArray n)] (Led c))
    (h0 : P 0 c₀) (hk : ∀ p ∈ ps c₀, m₁ p.1 = some p.2) (hr : ∀ z, (∀ p ∈ ps c₀, z ≠ p.1) → stored.contains z = false → m₁ z = m₀ z) (hn : ∀ p ∈ Led c₀, p ∈ news)
    (turn : ∀ (I : Addr), (∀ p ∈ news, p.1 < I) → ∀ (i : Nat) (a : Int) (ta : Tok) (c : σ) (u : Str → Option Value) h tk, ns[i]? = some a → P i c → Fr h₀ env.locals h (kstB (fun z => if stored.contains z then u z else m₀ z) (ps c)) →
      AllObj [(I, "list_iterator")] (fun its => News h₀ env.locals h (its ++ Led c) →
      wpAny (model prog w) A (assign target env (.int a ta)) (fun _ s₂ => wpAny (model prog w) A (execs body env)
        (fun f s₃ => match f with | .ret v => Q (.ret v) s₃ | .brk => Q .next s₃ | _ => ItEnd h₀ env.locals { s with heap := h, toks := tk } its Led ps stored m₀ (P (i + 1)) s₃) E s₂) E { s with heap := h, toks := tk }))
    (done : ∀ (c : σ) (u : Str → Option Value) h tk, P ns.length c → Fr h₀ env.locals h (kstB (fun z => if stored.contains z then u z else m₀ z) (ps c)) → News h₀ env.locals h (Led c) → Q .next { s with heap := h, toks := tk }) :
    wpAny (model prog w) A (pyIter (.ref l)) (fun it s₂ => TurnsAt prog w A h₀ env target body Q E it s₂) E s := by
  refine iter_listTurns (lo := listOf vs.toArray n) (vs := vs) hh F N hm rfl rfl fun I lI => ?_
  refine it_rest Led ps stored m₀ P hkeep (fun i a c u v h tk ha hp hv F' => ?_) (fun c u h tk hp => done c u h tk (by rwa [List.length_map, hi.length] at hp)) (vs.map .val) 0 (fun j a h => by rwa [Nat.zero_add]) (Nat.zero_add _) c₀ m₁ news h0 hk hr hn
  rw [List.getElem?_map] at ha
  cases hv' : vs[i]? with
  | none => rw [hv'] at ha; cases ha
  | some y =>
    rw [hv'] at ha
    obtain rfl := Option.some.inj ha
    obtain ⟨x, t, ex, hx⟩ := hi.at i _ hv'
    have hv9 : v = y := hv
    rw [hv9, ex]
    exact turn I lI i x t c u h tk hx hp F'
end
/-- a product, as _law_times makes it -/
noncomputable def IsMul (f g r : List Int) : Prop := r.length = f.length + g.length - 1 ∧ ∀ k, cut r k = comb (cut f) (cut g) f.length k
noncomputable def TmO (f g : List Int) (i : Nat) (r : List Int) : Prop := r.length = f.length + g.length - 1 ∧ ∀ k, cut r k = comb (cut f) (cut g) i k
noncomputable def TmI (f g : List Int) (i j : Nat) (r : List Int) : Prop := r.length = f.length + g.length - 1 ∧ ∀ k, cut r k = comb (cut f) (cut g) i k + if i ≤ k ∧ k < i + j then cut f i * cut g (k - i) else 0
theorem cut_set (l : List Int) (n : Nat) (x : Int) (k : Nat) : cut (l.set n x) k = if k = n ∧ n < l.length then x else cut l k := by
  unfold cut
  simp only [List.getD_eq_getElem?_getD, List.getElem?_set]
  by_cases h : n = k
  · subst h
    by_cases h2 : n < l.length
    · simp [h2]
    · simp [h2]
  · simp [h, Ne.symm h, show ¬ k = n from fun q => h q.symm]
theorem TmO.inner {f g r : List Int} {i : Nat} (h : TmO f g i r) : TmI f g i 0 r := ⟨h.1, fun k => by rw [h.2, if_neg (by omega), Int.add_zero]⟩
theorem TmI.outer {f g r : List Int} {i : Nat} (h : TmI f g i g.length r) : TmO f g (i + 1) r := ⟨h.1, fun k => by
  rw [h.2]
  show _ = comb (cut f) (cut g) i k + cut f i * shf i (cut g) k
  congr 1
  unfold shf
  by_cases h1 : i ≤ k
  · rw [if_pos h1]
    by_cases h2 : k < i + g.length
    · rw [if_pos ⟨h1, h2⟩]
    · rw [if_neg (by omega), cut_high (a := g) (by omega), Int.mul_zero]
  · rw [if_neg (by omega), if_neg h1, Int.mul_zero]⟩
theorem TmI.step {f g r : List Int} {i j : Nat} {a b : Int} (h : TmI f g i j r) (ha : f[i]? = some a) (hb : g[j]? = some b) {p q : Nat} (hp : p = i + j) (hq : q = i + j) : TmI f g i (j + 1) (r.set p (r.getD q 0 + a * b)) := by
  subst hp
  subst hq
  obtain ⟨hi, e1⟩ := List.getElem?_eq_some_iff.mp ha
  obtain ⟨hj, e2⟩ := List.getElem?_eq_some_iff.mp hb
  have c1 : cut f i = a := by simp [cut, List.getD_eq_getElem?_getD, ha]
  have c2 : cut g j = b := by simp [cut, List.getD_eq_getElem?_getD, hb]
  refine ⟨by rw [List.length_set]; exact h.1, fun k => ?_⟩
  rw [cut_set]
  have hr := h.1
  by_cases hk : k = i + j
  · subst hk
    rw [if_pos ⟨rfl, by omega⟩, show r.getD (i + j) 0 = cut r (i + j) from rfl, h.2, if_neg (by omega), if_pos (by omega), c1, Nat.add_sub_cancel_left, c2, Int.add_zero]
  · rw [if_neg (fun q => hk q.1), h.2]
    congr 1
    by_cases h1 : i ≤ k ∧ k < i + j
    · rw [if_pos h1, if_pos (by omega)]
    · rw [if_neg h1, if_neg (by omega)]
theorem TmO.start {f g : List Int} {m : Nat} (hm : m = f.length + g.length - 1) : TmO f g 0 (List.replicate m [0]).flatten := by
  refine ⟨by simp [hm], fun k => ?_⟩
  show _ = (0 : Int)
  unfold cut
  have : (List.replicate m [(0 : Int)]).flatten = List.replicate m 0 := by
    clear hm; induction m with
    | zero => rfl
    | succ m ih => rw [List.replicate_succ, List.flatten_cons, ih]; rfl
  rw [this, List.getD_eq_getElem?_getD]
  cases h : (List.replicate m (0 : Int))[k]? with
  | none => rfl
  | some x => have := List.mem_of_getElem? h; simp at this; simp [this]
structure TmS where
  vf : List Value
  nf : Nat
  fo : List Int
theorem mem4 {α : Type} {P : α → Prop} {x y z u : α} (hx : P x) (hy : P y) (hz : P z) (hu : P u) : ∀ p ∈ [x, y, z, u], P p := fun p hp => by
  simp only [List.mem_cons, List.not_mem_nil, or_false] at hp
  rcases hp with rfl | rfl | rfl | rfl <;> assumption

local macro_rules | `(tactic| walk_at "it for") => `(tactic| (k_here; (rename Fr _ _ _ _ => lF'); (with_unfolding_all refine' For_turns lF' ?_; k_whole)))
set_option maxHeartbeats 8000000 in
theorem con_times (w : World) (l : Addr) (vs : List Value) (n : Nat) (f : List Int) (hi : IntsAre vs f) (hf : 0 < f.length) (hf9 : f.length ≤ 8) (sf : SmlL f) (l1 : Addr) (vs1 : List Value) (n1 : Nat) (g : List Int) (hi1 : IntsAre vs1 g) (hg : 0 < g.length) (hg9 : g.length ≤ 8) (sg9 : SmlL g) :
    PHold w 169 [.ref l, .ref l1] [(l, listOf vs.toArray n), (l1, listOf vs1.toArray n1)] 5 (OutE (IsMul f g)) := by
  have e1 := hi.length
  have e2 := hi1.length
  ((unfold PHold; intro dpq9 unq9 gdq9 cnq9 csq9 aq9 ccdq9 clq9 outerq9 A₀q9 baseq9 h₀q9 Lq9 mq9 sq9 pq9 looseq9 meanq9 mgq9 mbq9 Qq9 Eq9 Bq9 Fq9 Xq9 Tq9 hkq9 Nq9 hdq9 huq9 hretq9; revert Bq9 Fq9 Xq9 Tq9 hkq9 Nq9 hdq9 huq9 hretq9; k_fill; intro Bq9 Fq9 Xq9 Tq9 hkq9 Nq9 hdq9 huq9 hretq9; have hold9 := hold_of Nq9; refine wpAny_call ?_); k_dflt ( (refine' code_pT ?k1q40 ?k2q40 ?k3q40 ?k5q40 ?k55q40 ?kAq40 ?kFq40 ?kKq40 ?k6q40 ?k7q40 ?k8q40 ?k9q40 ?kBq40 ?_ ?c2q40 ?c3q40 ?c4q40 ?c5q40; (case kAq40 => exact rfl); (case kFq40 => exact rfl); (case kKq40 => assumption); (case k1q40 => k_asm); (case k2q40 => k_asm); (case k3q40 => k_asm); (case k5q40 => k_asm); (case k55q40 => k_asm); (case k6q40 => k_is); (case k7q40 => k_is); (case k8q40 => ktr_room); (case k9q40 => exact BindsTo.of_eq rfl); (case c5q40 => decide); (case kBq40 => exact locs rfl); (case c2q40 => exact rfl); (case c3q40 => exact rfl); (case c4q40 => exact rfl); k_whole; (rename News _ _ _ _ => kN0); clear kN0; (rename Fr _ _ _ _ => kF0); clear kF0; (rename Frag.In _ _ => kF0); clear kF0;  (rename Top _ _ _ _ _ _ => kF0); clear kF0; (rename Below _ _ _ _ => kF0); clear kF0; intro g' G' L' h' F' N' B' X' T'; (try dsimp only); (try k_fold))))
  k_with_none
  repeat ((fail_if_success (with_reducible show wpAny _ _ (exec (Stmt.For _ _ _ _ _) _) _ _ _)); first | (k_unfold; (try dsimp only)) | walk1 | (dsimp only; walk1))
  walk_at "it for"
  repeat ((fail_if_success (with_reducible show wpAny _ _ (call (Value.type _) [Value.ref _]) _ _ _)); first | (k_unfold; (try dsimp only)) | walk1 | (dsimp only; walk1))
  (rename News _ _ _ _ => N9)
  rename_i D ha i1 nn s1 e1' e2' e3' l1' hb tk9
  (rename Fr _ _ _ _ => F9)
  refine' it_enum hi (σ := TmS) (fun c => [(D, listOf c.vf.toArray c.nf), (l, listOf vs.toArray n), (l1, listOf vs1.toArray n1)]) (fun _ => []) [Str.ofString "at", Str.ofString "one", Str.ofString "spot", Str.ofString "other"] _ (fun i c => IntsAre c.vf c.fo ∧ TmO f g i c.fo) ⟨_, _, _⟩ ?hh F9 N9 ?mem (fun _ => ?keep) ⟨i1, TmO.start ?len⟩ (fun _ h => nomatch h) (fun _ _ _ => rfl) ?hn ?turn ?done
  case hh => exact rfl
  case mem => k_mem
  case keep => exact ⟨.tail _ (.head _), trivial⟩
  case len => omega
  case hn => refine mem3 ?y1 ?y2 ?y3; (case y1 => (try dsimp only); k_mem); (case y2 => k_mem); (case y3 => k_mem)
  case turn =>
    clear F9 N9
    intro I lI
    k_lt lI
    intro i a ta t c u T h tk hga hp hT F
    obtain ⟨vf, nf, fo⟩ := c
    obtain ⟨hif, hO⟩ := hp
    dsimp only [kstB] at F hif hO ⊢
    have hia := (List.getElem?_eq_some_iff.mp hga).1
    have sa : Sml a := sf _ (List.mem_of_getElem? hga)
    ktu_objs
    rename_i o1 hc1 o2 hc2 N9
    repeat ((fail_if_success (with_reducible show wpAny _ _ (exec (Stmt.For _ _ _ _ _) _) _ _ _)); first | (k_unfold; (try dsimp only)) | walk1 | (dsimp only; walk1))
    walk_at "it for"
    repeat ((fail_if_success (with_reducible show wpAny _ _ (call (Value.type _) [Value.ref _]) _ _ _)); first | (k_unfold; (try dsimp only)) | walk1 | (dsimp only; walk1))
    (rename News _ _ _ _ => N9)
    (rename Fr _ _ _ _ => F9)
    refine' it_enum hi1 (σ := TmS) (fun c => [(D, listOf c.vf.toArray c.nf), (I + 1, o1), (I, o2), (l, listOf vs.toArray n), (l1, listOf vs1.toArray n1)]) (fun _ => []) [Str.ofString "spot", Str.ofString "other"] _ (fun j c => IntsAre c.vf c.fo ∧ TmI f g i j c.fo) ⟨vf, nf, fo⟩ ?ihh F9 N9 ?imem (fun _ => ?ikeep) ⟨hif, hO.inner⟩ (fun _ h => nomatch h) (fun _ _ _ => rfl) ?ihn ?iturn ?idone
    case ihh => exact rfl
    case imem => k_mem
    case ikeep => exact ⟨.tail _ (.tail _ (.tail _ (.tail _ (.head _)))), trivial⟩
    case ihn => refine mem5 ?iy1 ?iy2 ?iy3 ?iy4 ?iy5; (case iy1 => (try dsimp only); k_mem); (case iy2 => k_mem); (case iy3 => k_mem); (case iy4 => k_mem); (case iy5 => k_mem)
    case iturn =>
      clear F9 N9
      intro J lJ
      k_lt lJ
      intro j b tb t2 c2 u2 T2 h2 tk2 hgb hp2 hT2 F2
      obtain ⟨vf2, nf2, fo2⟩ := c2
      obtain ⟨hif2, hI2⟩ := hp2
      dsimp only [kstB] at F2 hif2 hI2 ⊢
      have hjb := (List.getElem?_eq_some_iff.mp hgb).1
      have sb : Sml b := sg9 _ (List.mem_of_getElem? hgb)
      have hl2 := hI2.1
      ktu_objs
      rename_i o3 hc3 o4 hc4 N7
      repeat ((fail_if_success (with_reducible show ItEnd _ _ _ _ _ _ _ _ _ _)); first | (k_unfold; (try dsimp only)) | walk1 | (dsimp only; walk1))
      (try dsimp only)
      ((try dsimp only); (refine' it_end (⟨_, _, _⟩ : TmS) (by k_asm) (by k_asm) ?ehiq41 ?ehnq41 ?ehaq41 ?ehkq41 ?ehrq41 ?ehpq41); (case ehiq41 => walk_at "it all" <;> k_mem); (case ehkq41 => walk_at "it all"  <;> ((try dsimp only); exact rfl)); (case ehnq41 => walk_at "it all" <;> ((try dsimp only); k_mem)); (case ehaq41 => walk_at "it all" <;> ((try dsimp only); k_ne)); (case ehrq41 => ksw_same); (case' ehpq41 => ((try dsimp only); refine And.intro (by assumption) ?_)))
      exact hI2.step hga hgb (by omega) (by omega)
    case idone =>
      clear F9 N9
      intro c2 u2 h2 tk2 hp2 F2 N2
      obtain ⟨vf2, nf2, fo2⟩ := c2
      obtain ⟨hif2, hI2⟩ := hp2
      dsimp only [kstB] at F2 N2 hif2 hI2 ⊢
      have hO2 := hI2.outer
      repeat ((fail_if_success (with_reducible show ItEnd _ _ _ _ _ _ _ _ _ _)); first | (k_unfold; (try dsimp only)) | walk1 | (dsimp only; walk1))
      (try dsimp only)
      ((try dsimp only); (refine' it_end (⟨_, _, _⟩ : TmS) (by k_asm) (by k_asm) ?ehiq42 ?ehnq42 ?ehaq42 ?ehkq42 ?ehrq42 ?ehpq42); (case ehiq42 => walk_at "it all" <;> k_mem); (case ehkq42 => walk_at "it all"  <;> ((try dsimp only); exact rfl)); (case ehnq42 => walk_at "it all" <;> ((try dsimp only); k_mem)); (case ehaq42 => walk_at "it all" <;> ((try dsimp only); k_ne)); (case ehrq42 => ksw_same); (case' ehpq42 => ((try dsimp only); refine And.intro (by assumption) ?_)))
      exact hO2
  case done =>
    clear F9 N9
    intro c u h tk hp F N
    obtain ⟨vf, nf, fo⟩ := c
    obtain ⟨hif, hO⟩ := hp
    dsimp only [kstB] at F N hif hO ⊢
    repeat (first | (k_unfold; (try dsimp only)) | walk1 | (dsimp only; walk1))
    ((try (k_unfold; (try dsimp only))); (try dsimp only); (try (k_unfold; (try dsimp only))); (rename (∀ r h' tk', Grows _ h' → OutE _ _ h' r → _) => hret9); (rename (∀ q ∈ _, Heap.get? _ _ = _) => hold9); (refine' endHE hret9 hold9 (by assumption) (by k_asm) (by k_asm) ?zsq43 (by k_mem) ?znq43 (by assumption) ?_); (case zsq43 => refine mem2 ?z1q43 ?z2q43; (case z1q43 => k_mem); (case z2q43 => k_mem)); (case znq43 => refine mem2 ?z1q43 ?z2q43; (case z1q43 => k_ne); (case z2q43 => k_ne)))
    exact hO
/-! «y = [elt for x, x₂ in zip(l, l2)]» -/
section
variable {prog : Program} {w : World} {A : Around} {E : Value → Shared → Prop} {s : Shared} {env : Env} {h₀ : Heap}
noncomputable def CpSrcA (prog : Program) (w : World) (A : Around) (E : Value → Shared → Prop) (h₀ : Heap) (env : Env) (elt : Expr) (x x₂ : Str) (scope : Scope) (cl : List (Str × Addr)) (y : Str) (Q : Flow → Shared → Prop) (xv : Value) (s₁ : Shared) : Prop :=
  wpAny (model prog w) A (pyIter xv) (fun it s₂ => ∃ (I : Addr) (fp wr : List Addr) (n : Nat) (Pt : Nat → Array Value → Prop) (St : Nat → Heap → Prop) (Mid : Nat → Addr → Heap → Prop) (G : Nat → Value → Prop) (m : Str → Option Value) (news : List (Addr × Obj)),
    it = .ref I ∧ WalksT prog w A I fp wr n Pt St Mid ∧ n ≤ sizeLine ∧ (∀ i vals, Pt i vals → ∃ v₁ v₂, vals = #[v₁, v₂]) ∧ A.handled = none ∧ St 0 s₂.heap ∧ (∀ b ∈ fp, b < s₂.heap.objs.size) ∧
    Fr h₀ env.locals s₂.heap m ∧ News h₀ env.locals s₂.heap news ∧ env.locals ∉ wr ∧ (∀ p ∈ news, p.1 ∉ wr) ∧ (∀ b ∈ wr, h₀.get? b = none) ∧
    (∀ C i v₁ v₂ s₃ m₃ E', i < n → Pt i #[v₁, v₂] → s₃.heap.Ns C m₃ → m₃ x = some v₁ → m₃ x₂ = some v₂ → (∀ b o, b ∉ wr → s₂.heap.get? b = some o → s₃.heap.get? b = some o) →
      wpAny (model prog w) A (eval elt (compEnvC scope cl C env)) (fun y s₄ => G i y ∧ Keeps s₃ s₄) E' s₃) ∧
    (∀ D h' tk ys k, Fr h₀ env.locals h' (fun z => if z = y then some (.ref D) else m z) → News h₀ env.locals h' ((D, { cls := .type "list", data := .seq ys k }) :: news) → (∀ p ∈ news, p.1 ≠ D) → ys.size = n → (∀ j y, ys[j]? = some y → G j y) → Q .next { s₂ with heap := h', toks := tk })) E s₁

theorem cp_Assign {elt iter : Expr} {x x₂ y : Str} {px px₂ tp py : Pos} {tk} {scope : Scope} {cl : List (Str × Addr)} {pos spos : Pos} {Q : Flow → Shared → Prop} {m₁ : Str → Option Value} (_F : Fr h₀ env.locals s.heap m₁)
    (hsw : swapsWith (.ListComp elt [⟨.Tuple [.Name x px, .Name x₂ px₂] tk tp, iter, [], 0⟩] scope pos) (some (.Name y py)) spos.line env = pure true)
    (hclos : closureFor scope env = pure cl) (hcell : ∀ y ∈ scope.names, y.2 ≠ .cell) (hkind : scope.kind = .function)
    (hnames : ∀ y ∈ scope.names, y.2 = .local → scope.names.lookup y.1 = some .local) (hx : scope.names.lookup x = some .local) (hx₂ : scope.names.lookup x₂ = some .local) (hxx : x ≠ x₂)
    (hy : env.kindOf y = some .local) (hp : (env.scope.kind == .class || (env.scope.kind == .module && env.locals != env.globals)) = false)
    (h : wpAny (model prog w) A (eval iter env) (CpSrcA prog w A E h₀ env elt x x₂ scope cl y Q) E s)
    (hs : ∀ x, foldedSetIterable iter env x = pure x := by intro _; rfl) :
    wpAny (model prog w) A (exec (.Assign [.Name y py] (.ListComp elt [⟨.Tuple [.Name x px, .Name x₂ px₂] tk tp, iter, [], 0⟩] scope pos) spos) env) Q E s := by
  rw [exec_Assign_Name_used _ _ _ _ hsw]
  refine wpAny_bind (wpAny_standAt (wpAny_bind ?_))
  show wpAny _ A (do let _ ← comprehension (.ListComp elt [⟨.Tuple [.Name x px, .Name x₂ px₂] tk tp, iter, [], 0⟩] scope pos) scope env _ (newList []) false (eval iter env) (some (assign (.Name y py) env))) _ _ s
  refine wpAny_bind (wpAny_mono (wpAny_comprehension_free (use := some (assign (.Name y py) env)) (Q := fun _ s' => Q .next s') rfl hs hclos hkind hnames
    (wpAny_mono h (fun xv s₁ h₁ => ?_) fun _ _ e => e)) (fun _ s' hq => wpAny_pure (wpAny_pure hq)) fun _ _ e => e)
  refine wpAny_mono h₁ (fun it s₂ h₂ => ?_) fun _ _ e => e
  obtain ⟨I, fp, wr, n, Pt, St, Mid, G, m, news, rfl, W, hsz, h2, hh, hst, hfp, F, N, hLw, hnw, hwr, helt, fin⟩ := h₂
  refine cp_block W hsz G h2 hcell hkind hx hx₂ hxx hh hst hfp helt ?_
  intro D C h' tk m' ys hD hC hDC hn hl hlen hG hk
  have old : ∀ b o, h₀.get? b = some o → b ∉ wr := fun b o e hb => by rw [hwr b hb] at e; cases e
  have hL₀ : h₀.get? env.locals = none := Heap.get?_none_of_le F.above
  obtain ⟨oL, esL, epL, hoL, _⟩ := F.ns
  have hDL : D ≠ env.locals := fun q => by rw [q, hoL] at hD; cases hD
  have hCL : C ≠ env.locals := fun q => by rw [q, hoL] at hC; cases hC
  have hD₀ : h₀.get? D = none := by
    cases q : h₀.get? D with
    | none => rfl
    | some o => rw [F.keep _ _ q] at hD; cases hD
  have hC₀ : h₀.get? C = none := by
    cases q : h₀.get? C with
    | none => rfl
    | some o => rw [F.keep _ _ q] at hC; cases hC
  have F' : Fr h₀ env.locals h' m := ⟨F.ns.at' fun o e => hk _ o hLw e, fun b o e => hk b o (old b o e) (F.keep b o e), F.above⟩
  have N' : News h₀ env.locals h' news := fun p hp => ⟨hk _ _ (hnw p hp) (N p hp).1, (N p hp).2⟩
  have nD : ∀ p ∈ news, p.1 ≠ D := fun p hp q => by have := (N p hp).1; rw [q, hD] at this; cases this
  have nC : ∀ p ∈ news, p.1 ≠ C := fun p hp q => by have := (N p hp).1; rw [q, hC] at this; cases this
  obtain ⟨k, hk9⟩ := hl
  show wpAny _ A (assign (.Name y py) env (.ref D)) _ _ _
  refine wpAny_assign_Name (wpAny_storeName_local hy F'.ns (fun h₂ hn₂ hs₂ => ?_) hp)
  have F₂ : Fr h₀ env.locals h₂ (fun z => if z = y then some (.ref D) else m z) := ⟨hn₂, fun b o e => hs₂.extBut b o (fun q => by rw [q, hL₀] at e; cases e) (F'.keep b o e), F'.above⟩
  refine ⟨m', hn.sameBut hs₂ hCL, fun h'' hs'' => fin D h'' _ ys k (F₂.change hs'' hCL hC₀) (fun p hp => ?_) nD hlen hG⟩
  rcases List.mem_cons.mp hp with rfl | hp
  · exact ⟨hs''.extBut _ _ (Ne.symm (Ne.symm hDC)) (hs₂.extBut _ _ hDL hk9), hDL, hD₀⟩
  · exact ⟨hs''.extBut _ _ (nC p hp) (hs₂.extBut _ _ (N' p hp).2.1 (N' p hp).1), (N' p hp).2⟩

theorem cp_zipA {elt : Expr} {x x₂ y : Str} {scope : Scope} {cl : List (Str × Addr)} {Q : Flow → Shared → Prop} {l l2 : Addr} {vs vs2 : List Value} {ns ns2 : List Int} {m : Str → Option Value} {news : List (Addr × Obj)} (g : Int → Int → Int)
    (hh : A.handled = none) (F : Fr h₀ env.locals s.heap m) (N : News h₀ env.locals s.heap news) (hl : s.heap.IsList l vs.toArray) (hi : IntsAre vs ns) (hl2 : s.heap.IsList l2 vs2.toArray) (hi2 : IntsAre vs2 ns2) (hsz : ns.length ≤ sizeLine)
    (helt : ∀ C (i : Nat) t a u b s₃ m₃ E', ns[i]? = some a → ns2[i]? = some b → s₃.heap.Ns C m₃ → m₃ x = some (.int a t) → m₃ x₂ = some (.int b u) → (∀ b o, s.heap.get? b = some o → s₃.heap.get? b = some o) →
      wpAny (model prog w) A (eval elt (compEnvC scope cl C env)) (fun y s₄ => (∃ t', y = .int (g a b) t') ∧ Keeps s₃ s₄) E' s₃)
    (fin : ∀ D ys k X h' tk, Fr h₀ env.locals h' (fun z => if z = y then some (.ref D) else m z) → News h₀ env.locals h' ((D, listOf (List.toArray ys) k) :: news) → (∀ p ∈ news, @Ne Nat p.1 D) → IntsAre ys X → X = List.zipWith g ns ns2 → X.length = min ns.length ns2.length → Q .next { s with heap := h', toks := tk }) :
    wpAny (model prog w) A (call (.type "zip") [.ref l, .ref l2]) (CpSrcA prog w A E h₀ env elt x x₂ scope cl y Q) E s := by
  obtain ⟨ol, hol, _⟩ := id hl
  have hlt : @LT.lt Nat _ l s.heap.objs.size := Heap.lt_size hol
  obtain ⟨ol2, hol2, _⟩ := id hl2
  have hlt2 : @LT.lt Nat _ l2 s.heap.objs.size := Heap.lt_size hol2
  refine call_zip_2 hl hl2 fun h' hz hTI hTO hit hit2 hsize hk => ?_
  have hl' : h'.IsList l vs.toArray := hl.at fun o e => hk l o e
  have hl2' : h'.IsList l2 vs2.toArray := hl2.at fun o e => hk l2 o e
  have D : ZipApart (s.heap.objs.size + 4) (s.heap.objs.size + 2) (s.heap.objs.size + 3) s.heap.objs.size (s.heap.objs.size + 1) l l2 := by
    constructor <;> (show @Ne Nat _ _) <;> omega
  refine wpAny_pyIter_zip hz ?_
  have big : ∀ b, b ∈ [s.heap.objs.size + 4, s.heap.objs.size + 3, s.heap.objs.size, s.heap.objs.size + 1] → @LE.le Nat _ s.heap.objs.size b := fun b hm => by
    simp only [List.mem_cons, List.not_mem_nil, or_false] at hm
    rcases hm with q | q | q | q <;> (have q : @Eq Nat _ _ := q; omega)
  have up : ∀ {h'' : Heap}, (∀ b o, b ∉ [s.heap.objs.size + 4, s.heap.objs.size + 3, s.heap.objs.size, s.heap.objs.size + 1] → h'.get? b = some o → h''.get? b = some o) → ∀ b o, s.heap.get? b = some o → h''.get? b = some o := fun {h''} hk' b o e => by
    have hb : @LT.lt Nat _ b s.heap.objs.size := Heap.lt_size e
    exact hk' b o (fun hm => absurd (big b hm) (Nat.not_le.mpr hb)) (hk b o e)
  have lenv : vs.toArray.size = ns.length := by simp [hi.length]
  have lenv2 : vs2.toArray.size = ns2.length := by simp [hi2.length]
  have hLs : @LT.lt Nat _ env.locals s.heap.objs.size := F.ns.lt
  refine ⟨_, _, _, _, _, _, _, (fun i y => ∃ a b t', ns[i]? = some a ∧ ns2[i]? = some b ∧ y = .int (g a b) t'), m, news, rfl, WalksT.zip2 hh _ _ _ _ _ l l2 D vs.toArray vs2.toArray, by rw [lenv]; exact Nat.le_trans (Nat.min_le_left _ _) hsz, ?_, hh, ⟨hz, hTI, ⟨_, _, hTO⟩, hit, hit2, hl', hl2'⟩, ?_, F.keeps hk, N.grown hk, ?_, ?_, ?_, ?_, ?_⟩
  · rintro i vals ⟨t, y, _, _, rfl⟩; exact ⟨_, _, rfl⟩
  · intro b hb
    show @LT.lt Nat _ b h'.objs.size
    simp only [List.mem_cons, List.not_mem_nil, or_false] at hb
    rw [hsize]
    rcases hb with q | q | q | q | q | q | q <;> (have q : @Eq Nat _ _ := q; omega)
  · exact fun hm => absurd (big _ hm) (Nat.not_le.mpr hLs)
  · exact fun p hp hm => absurd (big _ hm) (Nat.not_le.mpr (Heap.lt_size (N p hp).1))
  · exact fun b hm => Heap.get?_none_of_le (Nat.le_trans F.above (Nat.le_trans (Nat.le_of_lt hLs) (big b hm)))
  · rintro C i v₁ v₂ s₃ m₃ E' hin ⟨t, y, ht, hy, e⟩ hn h1 h2 hk₃
    obtain ⟨e1, e2⟩ : v₁ = t ∧ v₂ = y := by simpa using congrArg Array.toList e
    subst e1 e2
    obtain ⟨a, u, rfl, ha⟩ := hi.at i v₁ (by simpa using ht)
    obtain ⟨b, u2, rfl, hb⟩ := hi2.at i v₂ (by simpa using hy)
    exact wpAny_mono (helt C i u a u2 b s₃ m₃ E' ha hb hn h1 h2 (up hk₃)) (fun y s₄ h₄ => ⟨⟨a, b, h₄.1.choose, ha, hb, h₄.1.choose_spec⟩, h₄.2⟩) fun _ _ e => e
  · intro D h'' tk ys k F' N' nD hsz' hG
    refine fin D ys.toList k _ h'' tk F' (by rw [Array.toArray_toList]; exact N') nD ?_ rfl (by simp)
    have key : ∀ (vs : List Value) (ms ms2 : List Int), vs.length = min ms.length ms2.length → (∀ (j : Nat) v, vs[j]? = some v → ∃ a b t', ms[j]? = some a ∧ ms2[j]? = some b ∧ v = .int (g a b) t') → IntsAre vs (List.zipWith g ms ms2) := by
      intro vs
      induction vs with
      | nil =>
        intro ms ms2 hl _
        cases ms with
        | nil => exact .nil
        | cons => cases ms2 with
          | nil => exact .nil
          | cons => simp at hl
      | cons v r ih =>
        intro ms ms2 hl h
        cases ms with
        | nil => simp at hl
        | cons a ms => cases ms2 with
          | nil => simp at hl
          | cons b ms2 =>
          obtain ⟨a', b', t', ha, hb, rfl⟩ := h 0 v rfl
          cases ha; cases hb
          refine .cons _ _ (ih ms ms2 (by simp at hl; omega) fun j v hj => ?_)
          obtain ⟨a', b', u, ha, hb, rfl⟩ := h (j + 1) v hj
          exact ⟨a', b', u, ha, hb, rfl⟩
    refine key ys.toList ns ns2 (by rw [Array.length_toList, hsz', lenv, lenv2]) fun j v hj => ?_
    obtain ⟨a, b, t', ha, hb, rfl⟩ := hG j v (by simpa using hj)
    exact ⟨a, b, t', ha, hb, rfl⟩
end
structure MvS where
  D : Addr
  vf : List Value
  nf : Nat
  fo : List Int
structure MvI (cc : Int) (a : List Int) (i : Nat) (fo : List Int) : Prop where
  eq : fo = (a.reverse.take i).foldl (mvStep cc) [0]
  len : fo.length = i + 1
  bd : ∀ x ∈ fo, x.natAbs ≤ 4 ^ i - 1
theorem MvI.start (cc : Int) (a : List Int) : MvI cc a 0 [0] := ⟨rfl, rfl, fun x h => by rw [List.mem_singleton.mp h]; decide⟩
theorem MvI.step {cc : Int} {a fo X : List Int} {i : Nat} {x : Int} (h : MvI cc a i fo) (hx : a.reverse[i]? = some x) (hb : x.natAbs ≤ 3) (hc : cc.natAbs ≤ 3) (hX : X = List.zipWith (fun one other => cc * one + other) (fo ++ [0]) (0 :: fo)) {p q : Nat} (hp : p = 0) (hq : q = 0) :
    MvI cc a (i + 1) (X.set p (X.getD q 0 + x)) := by
  subst hp
  subst hq
  have hl : X.length = i + 2 := by rw [hX, List.length_zipWith]; simp [h.len]
  have e : X.set 0 (X.getD 0 0 + x) = mvStep cc fo x := by
    unfold mvStep
    rw [← hX]
    match X, hl with
    | y :: r, _ => rfl
  have hbX : ∀ y ∈ X, y.natAbs ≤ 4 * (4 ^ i - 1) := fun y hy => by
    rw [hX, List.mem_iff_getElem?] at hy
    obtain ⟨k, hk⟩ := hy
    rw [List.getElem?_zipWith] at hk
    have h1 : ∀ u, (fo ++ [0])[k]? = some u → u.natAbs ≤ 4 ^ i - 1 := fun u hu => by
      rcases List.mem_append.mp (List.mem_of_getElem? hu) with q | q
      · exact h.bd _ q
      · rw [List.mem_singleton.mp q]; exact Nat.zero_le _
    have h2 : ∀ u, (0 :: fo)[k]? = some u → u.natAbs ≤ 4 ^ i - 1 := fun u hu => by
      rcases List.mem_cons.mp (List.mem_of_getElem? hu) with q | q
      · rw [q]; exact Nat.zero_le _
      · exact h.bd _ q
    cases hu : (fo ++ [0])[k]? with
    | none => rw [hu] at hk; cases hk
    | some u =>
      cases hv : (0 :: fo)[k]? with
      | none => rw [hu, hv] at hk; cases hk
      | some v =>
        rw [hu, hv] at hk
        obtain rfl := Option.some.inj hk
        have b1 := h1 u hu
        have b2 := h2 v hv
        have b3 : (cc * u).natAbs ≤ 3 * (4 ^ i - 1) := by rw [Int.natAbs_mul]; exact Nat.mul_le_mul hc b1
        have b4 := Int.natAbs_add_le (cc * u) v
        omega
  have hpow : 4 ^ (i + 1) = 4 * 4 ^ i := by rw [Nat.pow_succ, Nat.mul_comm]
  have hpos : 0 < 4 ^ i := Nat.pow_pos (by decide)
  refine ⟨?_, by rw [List.length_set]; omega, fun y hy => ?_⟩
  · rw [e, h.eq, List.take_add_one, hx, Option.toList_some, List.foldl_append]; rfl
  · rcases List.mem_or_eq_of_mem_set hy with q | q
    · have := hbX y q; omega
    · have hm : X.getD 0 0 ∈ X := by
        match X, hl with
        | z :: r, _ => exact .head _
      have b1 := hbX _ hm
      have b2 := Int.natAbs_add_le (X.getD 0 0) x
      rw [q]; omega
theorem MvI.fin {cc : Int} {a fo : List Int} (h : MvI cc a a.reverse.length fo) : fo.take a.length = mv cc a := by
  rw [h.eq, List.take_of_length_le (Nat.le_refl _)]; rfl
theorem sml_abs {x : Int} (h : x.natAbs ≤ 2 ^ 17) : Sml x := Nat.le_trans (bits_of_lt (Nat.lt_of_le_of_lt h (by decide +kernel))) (by decide)
theorem MvI.sml {cc : Int} {a fo : List Int} {i : Nat} (h : MvI cc a i fo) (hi : i ≤ 4) {x : Int} (hx : x ∈ fo) : Sml x :=
  sml_abs (Nat.le_trans (h.bd x hx) (Nat.le_trans (Nat.sub_le _ _) (Nat.le_trans (Nat.pow_le_pow_right (by decide) hi) (by decide))))
section
variable {prog : Program} {w : World} {A : Around} {E' : Value → Shared → Prop} {s₃ : Shared} {m₃ : Str → Option Value} {C : Addr}
theorem moved_elt {env : Env} {scope : Scope} {cl : List (Str × Addr)} {p1 p2 p3 p4 p5 : Pos} {a b c : Int} {t u tc : Tok} {ca : Addr} (hk : scope.kind = .function) (k1 : (compEnvC scope cl C env).kindOf (Str.ofString "one") = some .local) (k2 : (compEnvC scope cl C env).kindOf (Str.ofString "other") = some .local)
    (k3 : (compEnvC scope cl C env).kindOf (Str.ofString "c") = some .cell) (k4 : (compEnvC scope cl C env).cells.lookup (Str.ofString "c") = some ca) (hv : s₃.heap.IsCell ca (some (.int c tc)))
    (hn : s₃.heap.Ns C m₃) (h1 : m₃ (Str.ofString "one") = some (.int a t)) (h2 : m₃ (Str.ofString "other") = some (.int b u)) (ha : Sml a) (hc : Sml c) :
    wpAny (model prog w) A (eval (.BinOp (.BinOp (.Name (Str.ofString "c") p1) .Mult (.Name (Str.ofString "one") p2) p3) .Add (.Name (Str.ofString "other") p4) p5) (compEnvC scope cl C env)) (fun y s₄ => (∃ t', y = .int (c * a + b) t') ∧ Keeps s₃ s₄) E' s₃ := by
  refine wpAny_BinOp (wpAny_BinOp (wpAny_Name (wpAny_loadName_cell hk k3 k4 hv (wpAny_Name (wpAny_loadName_local hk k1 hn h1 (PyProof.Rows.mul_int ?_ (PySem.IntMulOk.of_bits hc ha)))))))
  exact wpAny_Name (wpAny_loadName_local hk k2 (hn.at' fun _ e => e) h2 (add_int ⟨⟨_, rfl⟩, _, _, rfl, fun _ _ e => e⟩))
end
local macro_rules | `(tactic| walk_at "exec Assign cons ListComp") => `(tactic| (k_here; (with_reducible show wpAny _ _ (exec (Stmt.Assign [Expr.Name _ _] (Expr.ListComp _ [⟨Expr.Tuple [Expr.Name _ _, Expr.Name _ _] _ _, _, [], 0⟩] _ _) _) _) _ _ _); (rename Fr _ _ _ _ => lF'); k_dflt (refine cp_Assign lF' (by with_unfolding_all rfl) (by with_unfolding_all rfl) (by decide) (by rfl) (by decide) (by rfl) (by rfl) (by decide) (by rfl) (by rfl) ?_)))
set_option maxHeartbeats 8000000 in
theorem con_moved (w : World) (l : Addr) (vs : List Value) (n : Nat) (a : List Int) (hi : IntsAre vs a) (h1 : 0 < a.length) (h9 : a.length ≤ 4) (hb : ∀ x ∈ a, x.natAbs ≤ 3) (cc : Int) (tc : Tok) (hc : cc.natAbs ≤ 3) :
    PHold w 174 [.ref l, .int cc tc] [(l, listOf vs.toArray n)] 5 (OutL (mv cc a)) := by
  have e1 := hi.length
  ((unfold PHold; intro dpq9 unq9 gdq9 cnq9 csq9 aq9 ccdq9 clq9 outerq9 A₀q9 baseq9 h₀q9 Lq9 mq9 sq9 pq9 looseq9 meanq9 mgq9 mbq9 Qq9 Eq9 Bq9 Fq9 Xq9 Tq9 hkq9 Nq9 hdq9 huq9 hretq9; revert Bq9 Fq9 Xq9 Tq9 hkq9 Nq9 hdq9 huq9 hretq9; k_fill; intro Bq9 Fq9 Xq9 Tq9 hkq9 Nq9 hdq9 huq9 hretq9; have hold9 := hold_of Nq9; refine wpAny_call ?_); k_dflt ( (refine' code_pTC ?k1q45 ?k2q45 ?k3q45 ?k5q45 ?k55q45 ?kAq45 ?kFq45 ?kKq45 ?k6q45 ?k7q45 ?k8q45 ?k9q45 ?kBq45 ?kDq45 ?_ ?c2q45 ?c3q45 ?c4q45; (case kAq45 => exact rfl); (case kFq45 => exact rfl); (case kKq45 => assumption); (case k1q45 => k_asm); (case k2q45 => k_asm); (case k3q45 => k_asm); (case k5q45 => k_asm); (case k55q45 => k_asm); (case k6q45 => k_is); (case k7q45 => k_is); (case k8q45 => ktr_room); (case k9q45 => exact BindsTo.of_eq rfl); (case kBq45 => exact rfl); (case kDq45 => decide +kernel); (case c2q45 => exact rfl); (case c3q45 => exact rfl); (case c4q45 => exact rfl); k_whole; (rename News _ _ _ _ => kN0); clear kN0; (rename Fr _ _ _ _ => kF0); clear kF0; (rename Frag.In _ _ => kF0); clear kF0;  (rename Top _ _ _ _ _ _ => kF0); clear kF0; (rename Below _ _ _ _ => kF0); clear kF0; intro _ _ _ _ _ _ _ N' Y' plL' _ _ _; k_cells Y'; (try simp only [List.cons_append, List.nil_append] at N'); (try simp only [List.forall_mem_cons, List.forall_mem_nil, and_true, List.not_mem_nil, false_implies, implies_true] at plL'); revert plL'; intro _; (try dsimp only); (try k_fold))))
  k_with_none
  repeat ((fail_if_success (with_reducible show wpAny _ _ (exec (Stmt.For _ _ _ _ _) _) _ _ _)); first | (k_unfold; (try dsimp only)) | walk1 | (dsimp only; walk1))
  walk_at "it for"
  repeat ((fail_if_success (with_reducible show wpAny _ _ (pyIter _) _ _ _)); first | (k_unfold; (try dsimp only)) | walk1 | (dsimp only; walk1))
  (rename News _ _ _ _ => N9)
  (rename Fr _ _ _ _ => F9)
  rename_i L9 h94 tk94 B9 X9 T9 o9 d9 pl9 l9 h91 l19 h92 D9 ws9 h93 hI9 hC9 l29
  have hcell : o9.data = .cell (some (.int cc tc)) := d9
  clear d9
  refine' it_list hI9 (σ := MvS) (fun c => [(c.D, listOf c.vf.toArray c.nf), (L9 + 1, o9), (D9, listOf ws9.toArray 0), (l, listOf vs.toArray n)]) (fun c => [(Str.ofString "found", .ref c.D)]) [Str.ofString "number"] _ (fun i c => IntsAre c.vf c.fo ∧ MvI cc a i c.fo) ⟨l9, [.int 0 tk94], 0, [0]⟩ ?hh F9 N9 ?mem (fun _ => ?keep) ⟨IntsAre.cons _ _ IntsAre.nil, MvI.start cc a⟩ ?hk ?hr ?hn ?turn ?done
  case hh => exact rfl
  case mem => k_mem
  case keep => exact ⟨.tail _ (.tail _ (.head _)), trivial⟩
  case hk => walk_at "it all" <;> ((try dsimp only); exact rfl)
  case hr => ksw_same
  case hn => walk_at "it all" <;> ((try dsimp only); k_mem)
  case turn =>
    clear F9 N9
    intro I lI
    k_lt lI
    intro i x tx c u h tk hga hp F
    obtain ⟨D, vf, nf, fo⟩ := c
    obtain ⟨hif, hO⟩ := hp
    dsimp only [kstB] at F hif hO ⊢
    have hia : i < 4 := by
      have := (List.getElem?_eq_some_iff.mp hga).1
      rw [List.length_reverse] at this; omega
    have hll := hO.len
    have hlv := hif.length
    have hx3 : x.natAbs ≤ 3 := hb x (List.mem_reverse.mp (List.mem_of_getElem? hga))
    ktu_objs
    rename_i o1 hc1 N9
    repeat ((fail_if_success (with_reducible show wpAny _ _ (PySem.call (Value.type _) [Value.ref _, Value.ref _]) _ _ _)); first | (k_unfold; (try dsimp only)) | walk1 | (dsimp only; walk1))
    (rename News _ _ _ _ => N7)
    (rename Fr _ _ _ _ => F7)
    have hc7 := N7.get (show (L9 + 1, o9) ∈ _ by k_mem)
    k_dflt (refine' cp_zipA (fun one other => cc * one + other) (by rfl) F7 N7 ?il1 ?ii1 ?il2 ?ii2 ?isz (fun C j t a1 u1 b1 s₃ m₃ E' ha1 hb1 hn h1 h2 hk3 => moved_elt (tc := tc) (ca := L9 + 1) (by rfl) (by rfl) (by rfl) (by rfl) (by rfl) ⟨o9, hk3 _ _ hc7, hcell⟩ hn h1 h2 ?isa (sml_abs (Nat.le_trans hc (by decide)))) ?ifin)
    case il1 => walk_at "p list"
    case ii1 => assumption
    case il2 => walk_at "p list"
    case ii2 => assumption
    case isz => rw [List.length_append, List.length_singleton, hll]; exact Nat.le_trans (show i + 1 + 1 ≤ 16 by omega) (by decide)
    case isa =>
      rcases List.mem_append.mp (List.mem_of_getElem? ha1) with q | q
      · exact hO.sml (by omega) q
      · rw [List.mem_singleton.mp q]; decide
    case ifin =>
      clear F7 N7
      intro D8 y8 k8 X8 h8 tk8 F8 N8 nD8 I8 eX8 lX8
      have lX9 : X8.length = i + 2 := by rw [lX8]; simp [hll]
      (try dsimp only)
      (try k_sweep)
      simp only [List.forall_mem_cons, List.not_mem_nil, false_implies, implies_true, and_true] at nD8
      repeat ((fail_if_success (with_reducible show ItEnd _ _ _ _ _ _ _ _ _ _)); first | (k_unfold; (try dsimp only)) | walk1 | (dsimp only; walk1))
      ((try dsimp only); (refine' it_end (⟨_, _, _, _⟩ : MvS) (by k_asm) (by k_asm) ?ehiq46 ?ehnq46 ?ehaq46 ?ehkq46 ?ehrq46 ?ehpq46); (case ehkq46 => walk_at "it all" <;> ((try dsimp only); exact rfl)); (case ehiq46 => walk_at "it all" <;> k_mem); (case ehnq46 => walk_at "it all" <;> ((try dsimp only); k_mem)); (case ehaq46 => walk_at "it all" <;> ((try dsimp only); first | k_ne | walk_at "p apart")); (case ehrq46 => ksw_same); (case' ehpq46 => ((try dsimp only); refine And.intro (by assumption) ?_)))
      exact hO.step hga hx3 hc eX8 (by omega) (by omega)
  case done =>
    clear F9 N9
    intro c u h tk hp F N
    obtain ⟨D, vf, nf, fo⟩ := c
    obtain ⟨hif, hO⟩ := hp
    dsimp only [kstB] at F N hif hO ⊢
    have hll := hO.len
    rw [List.length_reverse] at hll
    have hfin := hO.fin
    repeat (first | (k_unfold; (try dsimp only)) | walk1 | (dsimp only; walk1))
    ((try (k_unfold; (try dsimp only))); (try dsimp only); (try (k_unfold; (try dsimp only))); (rename (∀ r h' tk', Grows _ h' → OutL _ _ h' r → _) => hret9); (rename (∀ q ∈ _, Heap.get? _ _ = _) => hold9); (refine' endHL hret9 hold9 (by assumption) (by k_asm) (by k_asm) ?zsq47 (by k_mem) ?znq47 (by assumption) ?_); (case zsq47 => walk_at "it all" <;> k_mem); (case znq47 => walk_at "it all" <;> ((try dsimp only); k_ne)))
    rw [Int.toNat_natCast]; exact hfin
/-- the pool: the cells and the spot -/
noncomputable def poolO (c : Addr) (x : Int) (t : Tok) (n : Nat) : Obj := listOf #[.ref c, .int x t] n
/-- all objects but p stay -/
noncomputable abbrev GrowsBut (p : Addr) (g h : Heap) : Prop := ∀ b o, b ≠ p → g.get? b = some o → h.get? b = some o
/-- what a call of a def does that draws from the pool p -/
noncomputable def PMut (w : World) (f : Addr) (args : List Value) (pl c : Addr) (Pre : Heap → Prop) (D : Nat) (out : Heap → Heap → Value → Prop) : Prop :=
  ∀ (dp un : Nat) (gd : Option (List Code)) (cn : Str) (cs : Scope) (a : Addr) (ccd : Value) (cl : List (Str × Addr)) (outer : List Env) (A₀ : Around) (base h₀ : Heap) (L : Addr) (m : Str → Option Value) (s : Shared)
    (p : Program) (loose : List Str) (mean : ExcName → Option Value) (mg mb : Str → Option Value) (Q E : Value → Shared → Prop) (x : Int) (t : Tok) (n : Nat),
    Below A₀ base outer h₀ → Fr h₀ L s.heap m → (hd0.heap_1 w.params).In h₀ → Top p loose mean mg mb h₀ → cs.kind = .function → News h₀ L s.heap [(pl, poolO c x t n)] → 0 ≤ x → Pre (hideAll s.heap [pl]) → dp + D < recursionLimit → un + 8 * D < cLine →
    (∀ r h' tk' x' t' n', GrowsBut pl s.heap h' → h'.get? pl = some (poolO c x' t' n') → 0 ≤ x' → out (hideAll s.heap [pl]) h' r → Q r { s with heap := h', toks := tk' }) →
    wpAny (model PySem.Challenge.rw_sa0085_01.row.prog w) (ktrTop dp un gd cn cs L a ccd cl outer) (call (.ref f) args) Q E s
section
variable {prog : Program} {w : World} {A₀ A : Around} {s : Shared} {K : Frag} {base h₀ : Heap} {outer : List Env} {L : Addr} {m mg mb : Str → Option Value} {env : Env} {p : Program} {loose : List Str} {mean : ExcName → Option Value}
  {R : Result → Shared → Prop} {name qual : Str} {params : Arguments} {body : List Stmt} {scope : Scope} {dV kV doc pm cdv ct oc : Value} {an od : Option Addr} {osl : Array (Option Value)} {f : Addr} {args : Args} {binds : List (Str × Value)} {pl c : Addr} {x : Int} {t : Tok} {n : Nat}
theorem code_pM (B : Below A₀ base outer h₀) (F : Fr h₀ L s.heap m) (X₀ : K.In h₀) (T : Top p loose mean mg mb h₀) (N : News h₀ L s.heap [(pl, poolO c x t n)]) (hA : A.frames = some (env :: outer)) (hf : env.frame = some L) (hke : env.scope.kind = .function)
    (ho : K.lookup f = some ⟨oc, od, .func (fnOf name qual params body scope dV kV doc pm an cdv ct), osl⟩) (hcd : codeIn K cdv qual = true) (hroom : A.depth < recursionLimit)
    (hbind : BindsTo s (fnOf name qual params body scope dV kV doc pm an cdv ct) args binds) (hloc : ∀ y ∈ binds, scope.names.lookup y.1 = some .local)
    (h : ∀ L' h₁, Fr (hideAll s.heap [pl]) L' h₁ (fun y => binds.reverse.lookup y) → News (hideAll s.heap [pl]) L' h₁ [(pl, poolO c x t n)] → Below A base (env :: outer) (hideAll s.heap [pl]) → K.In (hideAll s.heap [pl]) → Top p loose mean mg mb (hideAll s.heap [pl]) →
      wpAny (model prog w) (A.deeper (envOf qual scope L' f cdv)) (execs body (envOf qual scope L' f cdv))
        (fun fl s' => R (.ok (.ret (match fl with | .ret v => v | _ => .none))) s')
        (fun e s' => wpAny (model prog w) (A.deeper (envOf qual scope L' f cdv)) (leaving (envOf qual scope L' f cdv) e) (fun _ s'' => R (.error e) s'') (fun e' s'' => R (.error e') s'') s')
        { s with heap := h₁, toks := s.toks + binds.length })
    (hco : scope.isCoroutine = false) (hgen : scope.isGenerator = false) (hk : scope.kind = .function)
    (hcell : ∀ x ∈ scope.names, x.2 ≠ .cell) : codeAny (model prog w) A (.call (.ref f) args) R s := by
  obtain ⟨_, BG, st, _⟩ := groundX (R := fun _ _ => True) B F N hA hf hke
  refine codeAny_call_def (fd := fnX name qual params body scope [] dV kV doc pm an cdv ct) (body := body) (binds := binds) hroom ((X₀.keeps F.keep) _ _ ho) rfl (T.nolimit.keeps F.keep) (codeRec_of (X₀.keeps F.keep) hcd) rfl hbind hcell hloc (fun h₁ hns hk₁ => ?_) hco hgen hk
  exact h s.heap.objs.size h₁ ⟨hns, fun b o e => hk₁ b o (of_hideAll _ e), Nat.le_of_eq (hideAll_size _ _)⟩
    (fun q hq => ⟨hk₁ _ _ (N q hq).1, Nat.ne_of_lt (Heap.lt_size (N q hq).1), hideAll_none _ (List.mem_map_of_mem hq)⟩) BG (X₀.keeps st) (T.keeps st)
theorem code_pMC (B : Below A₀ base outer h₀) (F : Fr h₀ L s.heap m) (X₀ : K.In h₀) (T : Top p loose mean mg mb h₀) (N : News h₀ L s.heap [(pl, poolO c x t n)]) (hA : A.frames = some (env :: outer)) (hf : env.frame = some L) (hke : env.scope.kind = .function)
    (ho : K.lookup f = some ⟨oc, od, .func (fnOf name qual params body scope dV kV doc pm an cdv ct), osl⟩) (hcd : codeIn K cdv qual = true) (hroom : A.depth < recursionLimit)
    (hbind : BindsTo s (fnOf name qual params body scope dV kV doc pm an cdv ct) args binds) (hkind : (binds.all fun y => scope.names.lookup y.1 == some .local || scope.names.lookup y.1 == some .cell) = true)
    (hnd : ((cellsFrom 0 scope.names []).map (·.1)).Nodup)
    (h : ∀ L' h₁ tk cells, Fr (hideAll s.heap [pl]) L' h₁ (bindL (envOfC qual scope L' f cdv).kindOf binds fun _ => none) → News (hideAll s.heap [pl]) L' h₁ (cells ++ [(pl, poolO c x t n)]) →
      CellsAre (bindC (envOfC qual scope L' f cdv).kindOf binds fun _ => none) (cellsFrom (L' + 1) scope.names []) cells → @LT.lt Nat _ pl L' → Below A base (env :: outer) (hideAll s.heap [pl]) → K.In (hideAll s.heap [pl]) → Top p loose mean mg mb (hideAll s.heap [pl]) →
      wpAny (model prog w) (A.deeper (envOfC qual scope L' f cdv)) (execs body (envOfC qual scope L' f cdv))
        (fun fl s' => R (.ok (.ret (match fl with | .ret v => v | _ => .none))) s')
        (fun e s' => wpAny (model prog w) (A.deeper (envOfC qual scope L' f cdv)) (leaving (envOfC qual scope L' f cdv) e) (fun _ s'' => R (.error e) s'') (fun e' s'' => R (.error e') s'') s')
        { s with heap := h₁, toks := tk })
    (hco : scope.isCoroutine = false) (hgen : scope.isGenerator = false) (hk : scope.kind = .function) : codeAny (model prog w) A (.call (.ref f) args) R s := by
  obtain ⟨_, BG, st, _⟩ := groundX (R := fun _ _ => True) B F N hA hf hke
  refine codeAny_call_function hroom ((X₀.keeps F.keep) _ _ ho) rfl hco hgen rfl (codeRec_of (X₀.keeps F.keep) hcd) (hbind _ _ _ _ ?_)
  refine wpAny_newFunctionEnv_cells hk (kindsX hkind _) fun env' he s' x => ?_
  subst he
  refine ⟨(T.nolimit.keeps F.keep).keeps x.toInCall.keep, codeAny_func ?_⟩
  obtain ⟨h₁, tk, rfl, _⟩ := x.done
  have hk₁ := x.toInCall.keep
  obtain ⟨cells, NC, Y⟩ := Cl.news (h₀ := s.heap) (Nat.le_refl _) fun n c hm => ⟨x.cell n c (lookup_of_mem_nodup (cellsFrom_names scope.names 0 (s.heap.objs.size + 1) [] [] rfl ▸ hnd) hm), x.above n c hm⟩
  refine h s.heap.objs.size h₁ tk cells ⟨x.toInCall.ns, fun b o e => hk₁ b o (of_hideAll _ e), Nat.le_of_eq (hideAll_size _ _)⟩ (fun q hq => ?_) Y (Heap.lt_size (N _ (.head _)).1) BG (X₀.keeps st) (T.keeps st)
  rcases List.mem_append.mp hq with hq | hq
  · refine ⟨(NC q hq).1, (NC q hq).2.1, ?_⟩
    cases e : (hideAll s.heap [pl]).get? q.1 with
    | none => rfl
    | some o => have := of_hideAll _ e; rw [(NC q hq).2.2] at this; cases this
  · exact ⟨hk₁ _ _ (N q hq).1, Nat.ne_of_lt (Heap.lt_size (N q hq).1), hideAll_none _ (List.mem_map_of_mem hq)⟩
end
noncomputable def OutR (many : Int) (_ _ : Heap) (r : Value) : Prop := ∃ v t, r = .int v t ∧ 0 ≤ v ∧ v < many
section
variable {s : Shared} {L : Addr} {h : Heap} {m : Str → Option Value} {news : List (Addr × Obj)} {pl c : Addr} {n : Nat} {x v : Int} {t tv : Tok} {Q : Value → Shared → Prop} {tk : Nat} {many : Int}
theorem endM {r : Value} {out : Heap → Heap → Value → Prop} (hret : ∀ r h' tk' x' t' n', GrowsBut pl s.heap h' → h'.get? pl = some (listOf #[.ref c, .int x' t'] n') → 0 ≤ x' → out (hideAll s.heap [pl]) h' r → Q r { s with heap := h', toks := tk' })
    (F : Fr (hideAll s.heap [pl]) L h m) (N : News (hideAll s.heap [pl]) L h news) (hm : (pl, listOf #[.ref c, .int x t] n) ∈ news) (hx : 0 ≤ x) (ho : out (hideAll s.heap [pl]) h r) :
    Q r { s with heap := h, toks := tk } :=
  hret _ _ _ x t n (fun b o hb e => F.keep b o (hideAll_get _ e (by simpa using hb))) (N _ hm).1 hx ho
end
local macro_rules | `(tactic| walk_at "p endM") => `(tactic| ((try (k_unfold; (try dsimp only))); (try dsimp only); (try (k_unfold; (try dsimp only))); ((rename (∀ r h' tk' x' t' n', GrowsBut _ _ h' → _) => hret9); (refine' endM hret9 ?zF ?zN ?zm ?zx ?zo); (case zF => k_asm); (case zN => k_asm); (case zm => k_mem); (case zx => omega))))
theorem fmod_range {x y : Int} (h : 0 < y) : 0 ≤ x.fmod y ∧ x.fmod y < y := by
  rw [Int.fmod_eq_emod_of_nonneg _ (Int.le_of_lt h)]
  exact ⟨Int.emod_nonneg _ (by omega), Int.emod_lt_of_pos _ h⟩
set_option maxHeartbeats 8000000 in
theorem con_draw (w : World) (pl c : Addr) (vs : List Value) (cells : List Int) (hi : IntsAre vs cells) (hlen : cells.length ≤ 63) (many : Int) (tm : Tok) (hm : 0 < many) (hm9 : many ≤ 9) :
    PMut w 162 [.ref pl, .int many tm] pl c (fun h => h.IsList c vs.toArray) 2 (OutR many) := by
  ((unfold PMut; intro dpq9 unq9 gdq9 cnq9 csq9 aq9 ccdq9 clq9 outerq9 A₀q9 baseq9 h₀q9 Lq9 mq9 sq9 pq9 looseq9 meanq9 mgq9 mbq9 Qq9 Eq9 x0q9 xtq9 xnq9 Bq9 Fq9 Xq9 Tq9 hkq9 Nq9 hxq9 hpreq9 hdq9 huq9 hretq9; revert Bq9 Fq9 Xq9 Tq9 hkq9 Nq9 hxq9 hpreq9 hdq9 huq9 hretq9; k_fill; intro Bq9 Fq9 Xq9 Tq9 hkq9 Nq9 hxq9 hpreq9 hdq9 huq9 hretq9; refine wpAny_call ?_); k_dflt ( (refine' code_pM ?k1q49 ?k2q49 ?k3q49 ?k5q49 ?k55q49 ?kAq49 ?kFq49 ?kKq49 ?k6q49 ?k7q49 ?k8q49 ?k9q49 ?kBq49 ?_ ?c2q49 ?c3q49 ?c4q49 ?c5q49; (case kAq49 => exact rfl); (case kFq49 => exact rfl); (case kKq49 => assumption); (case k1q49 => k_asm); (case k2q49 => k_asm); (case k3q49 => k_asm); (case k5q49 => k_asm); (case k55q49 => k_asm); (case k6q49 => k_is); (case k7q49 => k_is); (case k8q49 => ktr_room); (case k9q49 => exact BindsTo.of_eq rfl); (case c5q49 => decide); (case kBq49 => exact locs rfl); (case c2q49 => exact rfl); (case c3q49 => exact rfl); (case c4q49 => exact rfl); k_whole; (rename News _ _ _ _ => kN0); clear kN0; (rename Fr _ _ _ _ => kF0); clear kF0; (rename Frag.In _ _ => kF0); clear kF0;  (rename Top _ _ _ _ _ _ => kF0); clear kF0; (rename Below _ _ _ _ => kF0); clear kF0; intro L' h' F' N' B' X' T'; (try dsimp only); (try k_fold))))
  k_with_none
  unfold poolO at *
  k_steps
  all_goals walk_at "p endM"
  all_goals exact ⟨_, _, rfl, fmod_range hm⟩
/-- the ledger with the pool's entry turned -/
inductive Swp (pl : Addr) (o o' : Obj) : List (Addr × Obj) → List (Addr × Obj) → Prop
  | nil : Swp pl o o' [] []
  | here {l l'} : Swp pl o o' l l' → Swp pl o o' ((pl, o) :: l) ((pl, o') :: l')
  | there {q l l'} : @Ne Nat q.1 pl → Swp pl o o' l l' → Swp pl o o' (q :: l) (q :: l')
theorem Swp.news {pl : Addr} {o o' : Obj} {h₀ h h' : Heap} {L : Addr} {l l' : List (Addr × Obj)} (S : Swp pl o o' l l') (N : News h₀ L h l) (g : GrowsBut pl h h') (hp : h'.get? pl = some o') : News h₀ L h' l' := by
  induction S with
  | nil => exact fun q hq => nomatch hq
  | here _ ih =>
    intro q hq
    rcases List.mem_cons.mp hq with rfl | hq
    · exact ⟨hp, (N _ (.head _)).2⟩
    · exact ih (fun q hq => N q (.tail _ hq)) q hq
  | @there q l l' hq' _ ih =>
    intro r hr
    rcases List.mem_cons.mp hr with rfl | hr
    · exact ⟨g _ _ hq' (N _ (.head _)).1, (N _ (.head _)).2⟩
    · exact ih (fun q hq => N q (.tail _ hq)) r hr
theorem Swp.refl {pl : Addr} {o o' : Obj} : ∀ {l : List (Addr × Obj)}, (∀ q ∈ l, @Ne Nat q.1 pl) → Swp pl o o' l l
  | [], _ => .nil
  | _ :: _, h => .there (h _ (.head _)) (Swp.refl fun q hq => h q (.tail _ hq))
theorem isList_hide {h : Heap} {pl c : Addr} {items : Array Value} (hl : h.IsList c items) (hc : @Ne Nat c pl) : (hideAll h [pl]).IsList c items := by
  obtain ⟨o, e, r⟩ := hl
  exact ⟨o, hideAll_get _ e (by simpa using hc), r⟩
noncomputable def AllNe (pl : Addr) : List (Addr × Obj) → Prop
  | [] => True
  | q :: l => @Ne Nat q.1 pl ∧ AllNe pl l
/-- the pool stands at place i, and nowhere else -/
noncomputable def PoolAt (pl : Addr) (o : Obj) : Nat → List (Addr × Obj) → Prop
  | _, [] => False
  | 0, q :: l => q = (pl, o) ∧ AllNe pl l
  | i + 1, q :: l => @Ne Nat q.1 pl ∧ PoolAt pl o i l
theorem AllNe.mem {pl : Addr} : ∀ {l : List (Addr × Obj)}, AllNe pl l → ∀ q ∈ l, @Ne Nat q.1 pl
  | [], _ => fun _ h => nomatch h
  | _ :: _, h => fun q hq => by
    rcases List.mem_cons.mp hq with rfl | hq
    · exact h.1
    · exact AllNe.mem h.2 q hq
theorem PoolAt.mem {pl : Addr} {o : Obj} : ∀ {i : Nat} {l : List (Addr × Obj)}, PoolAt pl o i l → (pl, o) ∈ l
  | 0, q :: l, h => by rw [h.1]; exact .head _
  | i + 1, q :: l, h => .tail _ (PoolAt.mem h.2)
theorem PoolAt.swp {pl : Addr} {o : Obj} (o' : Obj) : ∀ {i : Nat} {l : List (Addr × Obj)}, PoolAt pl o i l → Swp pl o o' l (l.set i (pl, o'))
  | 0, q :: l, h => by rw [h.1]; exact .here (Swp.refl h.2.mem)
  | i + 1, q :: l, h => .there h.1 (PoolAt.swp o' h.2)
section
variable {w : World} {f : Addr} {args : List Value} {Pre : Heap → Prop} {D : Nat} {dp un : Nat} {gd : Option (List Code)} {cn : Str} {cs : Scope} {a : Addr} {ccd : Value} {cl : List (Str × Addr)} {outer : List Env} {A₀ : Around} {base h₀ : Heap} {L : Addr} {m : Str → Option Value} {s : Shared}
    {p : Program} {loose : List Str} {mean : ExcName → Option Value} {mg mb : Str → Option Value} {Q E : Value → Shared → Prop} {news : List (Addr × Obj)} {pl c : Addr} {out : Heap → Heap → Value → Prop} {x : Int} {t : Tok} {n : Nat} {many : Int}
theorem PMut.useR (C : PMut w f args pl c Pre D (OutR many)) (B : Below A₀ base outer h₀) (F : Fr h₀ L s.heap m) (X : (hd0.heap_1 w.params).In h₀) (N : News h₀ L s.heap news) (T : Top p loose mean mg mb h₀) (hk : cs.kind = .function)
    (i : Nat) (hm : PoolAt pl (listOf #[.ref c, .int x t] n) i news) (hx : 0 ≤ x) (hpre : Pre (hideAll s.heap [pl])) (hd : dp + D < recursionLimit) (hu : un + 8 * D < cLine)
    (ret : ∀ v tv h' tk' x' t' n', 0 ≤ x' → Fr h₀ L h' m → News h₀ L h' (news.set i (pl, listOf #[.ref c, .int x' t'] n')) → 0 ≤ v → v < many → Q (.int v tv) { s with heap := h', toks := tk' }) :
    wpAny (model PySem.Challenge.rw_sa0085_01.row.prog w) (ktrTop dp un gd cn cs L a ccd cl outer) (call (.ref f) args) Q E s := by
  have N1 : News h₀ L s.heap [(pl, poolO c x t n)] := fun q hq => by
    rw [List.mem_singleton.mp hq]; exact N _ hm.mem
  refine C _ _ _ _ _ _ _ _ _ _ _ _ _ _ _ _ _ _ _ _ _ _ x t n B F X T hk N1 hx hpre hd hu fun r h' tk' x' t' n' g hp hx' o => ?_
  obtain ⟨v, tv, rfl, h1, h2⟩ := o
  have S := hm.swp (listOf #[.ref c, .int x' t'] n')
  have F' : Fr h₀ L h' m := by
    refine ⟨F.ns.at' fun o e => g L o (fun q => (N _ hm.mem).2.1 q.symm) e, fun b o e => g b o (fun q => ?_) (F.keep b o e), F.above⟩
    have := (N _ hm.mem).2.2
    rw [q] at e; rw [e] at this; cases this
  exact ret v tv h' tk' x' t' n' hx' F' (S.news N g hp) h1 h2
end
/-- a drawn polynomial -/
structure Dr (most : Int) (ns : List Int) : Prop where
  lo : 2 ≤ ns.length
  hi : (ns.length : Int) ≤ most + 1
  ld : lead ns ≠ 0
  bd : ∀ x ∈ ns, x.natAbs ≤ 3
noncomputable def OutDr (most : Int) (g h : Heap) (r : Value) : Prop := ∃ ns, Dr most ns ∧ OutL ns g h r
theorem split3 {v most : Int} (h : v < most) (h3 : most ≤ 3) (h0 : 0 ≤ v) : v = 0 ∨ v = 1 ∨ v = 2 := by omega
local macro_rules | `(tactic| walk_at "p poolat") => `(tactic| ((dsimp only [PoolAt, AllNe]); repeat' (first | exact rfl | exact trivial | (refine And.intro ?_ ?_) | walk_at "p apart")))
local macro_rules | `(tactic| walk_at "p afterM") => `(tactic| (k_whole; intro v9 tv9 h9 tk9 x9 t9 n9 X9 F9 N9 v90 v91; (try dsimp only [List.set] at N9); (try dsimp only); (try k_sweep); (try k_fold)))
local macro_rules | `(tactic| walk_at "p sidesM") => `(tactic| ((case zpre => exact isList_hide (by walk_at "p list") (by walk_at "p apart")); (case hi => walk_at "p ints"); (case hlen => first | assumption | (rw [List.length_map, List.length_take]; omega)); (case hm0 => omega); (case hm9 => omega); (case k1 => k_asm); (case k2 => k_asm); (case k3 => k_asm); (case k5 => k_asm); (case kK => first | exact rfl | assumption); (case zx => first | assumption | decide); (case kd => ktr_room); (case ku => ktr_units)))
local macro_rules | `(tactic| walk_at "p pool") => `(tactic| first | ((refine (?_ : PoolAt _ _ 0 _)); walk_at "p poolat"; done) | ((refine (?_ : PoolAt _ _ 1 _)); walk_at "p poolat"; done) | ((refine (?_ : PoolAt _ _ 2 _)); walk_at "p poolat"; done) | ((refine (?_ : PoolAt _ _ 3 _)); walk_at "p poolat"; done) | ((refine (?_ : PoolAt _ _ 4 _)); walk_at "p poolat"; done) | ((refine (?_ : PoolAt _ _ 5 _)); walk_at "p poolat"; done))
local macro_rules | `(tactic| walk_at "call ref") => `(tactic| (k_here; k_dflt (refine' PMut.useR (con_draw _ _ _ _ _ ?hi ?hlen _ _ ?hm0 ?hm9) ?k1 ?k2 ?k3 ?k4 ?k5 ?kK _ ?zm ?zx ?zpre ?kd ?ku ?_; (case k4 => k_asm); (case zm => walk_at "p pool"); walk_at "p sidesM"); walk_at "p afterM"))
theorem menu4 {v : Int} (h0 : 0 ≤ v) (h4 : v < 4) : ([1, -1, 2, -3] : List Int).getD v.toNat 0 ≠ 0 ∧ (([1, -1, 2, -3] : List Int).getD v.toNat 0).natAbs ≤ 3 := by
  rcases (show v = 0 ∨ v = 1 ∨ v = 2 ∨ v = 3 by omega) with rfl | rfl | rfl | rfl <;> decide
theorem frame_pick {h₀ h : Heap} {L : Addr} {m : Str → Option Value} {x : Str} {v : Value} (F : Fr h₀ L h m) (e : m x = some v) : ∃ U : Str → Option Value, Fr h₀ L h (fun y => if y = x then some v else U y) :=
  ⟨m, by
    have : (fun y => if y = x then some v else m y) = m := funext fun y => by
      by_cases q : y = x
      · rw [if_pos q, q, e]
      · rw [if_neg q]
    rw [this]; exact F⟩
theorem news_tail2 {h₀ h : Heap} {L : Addr} {a b : Addr × Obj} {r : List (Addr × Obj)} (N : News h₀ L h (a :: b :: r)) : News h₀ L h r := fun q hq => N q (.tail _ (.tail _ hq))
theorem dr_of {most x : Int} {ns : List Int} (h1 : 1 ≤ ns.length) (hm : (ns.length : Int) ≤ most) (hb : ∀ y ∈ ns, y.natAbs ≤ 3) (hx : x ≠ 0 ∧ x.natAbs ≤ 3) : Dr most (ns ++ [x]) := by
  refine ⟨by rw [List.length_append, List.length_singleton]; omega, by rw [List.length_append, List.length_singleton]; omega, ?_, fun y hy => ?_⟩
  · have e : lead (ns ++ [x]) = x := by unfold lead cut; simp
    rw [e]; exact hx.1
  · rcases List.mem_append.mp hy with q | q
    · exact hb y q
    · rw [List.mem_singleton.mp q]; exact hx.2
theorem range_sz {v most : Int} (h : v < most) (h3 : most ≤ 3) (h0 : 0 ≤ v) : Builtin.Range.rangeSize 0 (1 + v) 1 = (((1 + v).toNat : Nat) : Int) ∧ Builtin.Range.small 0 (1 + v) 1 = true ∧ (1 + v).toNat ≤ sizeLine := by
  rcases split3 h h3 h0 with rfl | rfl | rfl <;> exact ⟨by decide, by decide, Nat.le_of_ble_eq_true rfl⟩
section
variable {prog : Program} {w : World} {A : Around} {s : Shared} {h₀ : Heap} {L : Addr} {m : Str → Option Value} {env : Env} {elt : Expr} {x : Str} {scope : Scope} {cl : List (Str × Addr)} {S : List (Addr × Obj) → Prop} {P : Nat → Value → Prop} {Fin : List Value → List (Addr × Obj) → Prop}
theorem comp_inv (J : List Value → List (Addr × Obj) → Prop)
    (turn : ∀ (i : Nat) ys news, J ys news → ∀ v I oI C oC D m₂ h tk (E' : Value → Shared → Prop), P i v → LCg.NsObj oC m₂ → m₂ x = some v → Fr h₀ L h m → News h₀ L h ((I, oI) :: (C, oC) :: (D, LCg.lst ys) :: news) → LCg.Off3 I C D news → ((@Ne Nat I C) ∧ (@Ne Nat I D) ∧ (@Ne Nat C D)) →
      wpAny (model prog w) A (eval elt (compEnvC scope cl C env)) (LCg.CompEnd h₀ L m { s with heap := h, toks := tk } I oI C oC D (LCg.lst ys) S (fun y news' => J (ys ++ [y]) news')) E' { s with heap := h, toks := tk }) :
    ∀ (n i : Nat) ys news, J ys news → ys.length = i → (∀ ys' news', ys'.length = i + n → J ys' news' → Fin ys' news') → LCg.CompRest prog w A h₀ L m env elt x scope cl s S P Fin n i ys news
  | 0, i, ys, news, hJ, hl, fin => fin ys news hl hJ
  | n + 1, i, ys, news, hJ, hl, fin => fun v I oI C oC D m₂ h tk E' hv hC hx F N off ne =>
    wpAny_mono (turn i ys news hJ v I oI C oC D m₂ h tk E' hv hC hx F N off ne) (fun y s₂ q => by
      obtain ⟨h', tk', news', e, F', N', o', S', r⟩ := q
      exact ⟨h', tk', news', e, F', N', o', S', comp_inv J turn n (i + 1) (ys ++ [y]) news' r (by rw [List.length_append, hl]; rfl) fun ys' n' hl' => fin ys' n' (by rw [hl']; omega)⟩) fun _ _ e => e
end
section
variable {s : Shared} {L : Addr} {h : Heap} {m : Str → Option Value} {news : List (Addr × Obj)} {pl c D : Addr} {n k : Nat} {x : Int} {t : Tok} {Q : Value → Shared → Prop} {tk : Nat} {most : Int} {vs : List Value} {ns : List Int}
theorem endDr (hret : ∀ r h' tk' x' t' n', GrowsBut pl s.heap h' → h'.get? pl = some (listOf #[.ref c, .int x' t'] n') → 0 ≤ x' → OutDr most (hideAll s.heap [pl]) h' r → Q r { s with heap := h', toks := tk' })
    (F : Fr (hideAll s.heap [pl]) L h m) (N : News (hideAll s.heap [pl]) L h news) (hm : (pl, listOf #[.ref c, .int x t] n) ∈ news) (hx : 0 ≤ x) (hl : (D, listOf (List.toArray vs) k) ∈ news) (hi : IntsAre vs ns) (hd : Dr most ns) :
    Q (.ref D) { s with heap := h, toks := tk } :=
  hret _ _ _ x t n (fun b o hb e => F.keep b o (hideAll_get _ e (by simpa using hb))) (N _ hm).1 hx ⟨ns, hd, D, vs, k, rfl, (N _ hl).1, (N _ hl).2.2, hi⟩
end
noncomputable def DrJ (pl c : Addr) (q : Addr × Obj) (ys : List Value) (news : List (Addr × Obj)) : Prop := ∃ ns x t k, IntsAre ys ns ∧ (∀ u ∈ ns, u.natAbs ≤ 3) ∧ 0 ≤ x ∧ news = [q, (pl, listOf #[.ref c, .int x t] k)]
set_option maxHeartbeats 8000000 in
theorem con_drawn (w : World) (pl c : Addr) (vs : List Value) (cells : List Int) (hi : IntsAre vs cells) (hlen : cells.length ≤ 63) (most : Int) (tm : Tok) (hm : 2 ≤ most) (hm9 : most ≤ 3) :
    PMut w 179 [.ref pl, .int most tm] pl c (fun h => h.IsList c vs.toArray) 8 (OutDr most) := by
  ((unfold PMut; intro dpq9 unq9 gdq9 cnq9 csq9 aq9 ccdq9 clq9 outerq9 A₀q9 baseq9 h₀q9 Lq9 mq9 sq9 pq9 looseq9 meanq9 mgq9 mbq9 Qq9 Eq9 x0q9 xtq9 xnq9 Bq9 Fq9 Xq9 Tq9 hkq9 Nq9 hxq9 hpreq9 hdq9 huq9 hretq9; revert Bq9 Fq9 Xq9 Tq9 hkq9 Nq9 hxq9 hpreq9 hdq9 huq9 hretq9; k_fill; intro Bq9 Fq9 Xq9 Tq9 hkq9 Nq9 hxq9 hpreq9 hdq9 huq9 hretq9; refine wpAny_call ?_); k_dflt ( (refine' code_pMC ?k1q51 ?k2q51 ?k3q51 ?k5q51 ?k55q51 ?kAq51 ?kFq51 ?kKq51 ?k6q51 ?k7q51 ?k8q51 ?k9q51 ?kBq51 ?kDq51 ?_ ?c2q51 ?c3q51 ?c4q51; (case kAq51 => exact rfl); (case kFq51 => exact rfl); (case kKq51 => assumption); (case k1q51 => k_asm); (case k2q51 => k_asm); (case k3q51 => k_asm); (case k5q51 => k_asm); (case k55q51 => k_asm); (case k6q51 => k_is); (case k7q51 => k_is); (case k8q51 => ktr_room); (case k9q51 => exact BindsTo.of_eq rfl); (case kBq51 => exact rfl); (case kDq51 => decide +kernel); (case c2q51 => exact rfl); (case c3q51 => exact rfl); (case c4q51 => exact rfl); k_whole; (rename News _ _ _ _ => kN0); clear kN0; (rename Fr _ _ _ _ => kF0); clear kF0; (rename Frag.In _ _ => kF0); clear kF0;  (rename Top _ _ _ _ _ _ => kF0); clear kF0; (rename Below _ _ _ _ => kF0); clear kF0; intro _ _ _ _ _ N' Y' _ _ _ _; k_cells Y'; (try simp only [List.cons_append, List.nil_append] at N'); (try dsimp only); (try k_fold))))
  k_with_none
  unfold poolO at *
  (rename News _ _ _ _ => N0)
  (rename Fr _ _ _ _ => F0)
  rename_i L9 h0 tk0 plL B9 X9 T9 o9 d9
  have hcell : o9.data = .cell (some (.ref pl)) := d9
  clear d9
  obtain ⟨U, F1⟩ := frame_pick (x := Str.ofString "most") (v := .int most tm) F0 rfl
  clear F0
  (rename Heap.IsList _ _ _ => hp5)
  have hcp : @Ne Nat c pl := by
    intro e
    obtain ⟨o5, e5, _⟩ := hp5
    have := (N0 _ (.tail _ (.head _))).2.2
    rw [show c = pl from e] at e5
    rw [e5] at this; cases this
  repeat ((fail_if_success (with_reducible show wpAny _ _ (call _ _) _ _ _)); first | (k_unfold; (try dsimp only)) | walk1 | (dsimp only; walk1))
  walk1
  rename_i v1 tv1 hv1 tkv1 x1 t1 n1 X1 F2 N2 v10 v1m
  repeat ((fail_if_success (with_reducible show wpAny _ _ (call _ _) _ _ _)); first | (k_unfold; (try dsimp only)) | walk1 | (dsimp only; walk1))
  walk1
  rename_i v2 tv2 hv2 tkv2 x2 t2 n2 X2 F3 N3 v20 v24
  repeat ((fail_if_success (with_reducible show wpAny _ _ (PySem.eval (PySem.Expr.ListComp _ _ _ _) _) _ _ _)); first | (k_unfold; (try dsimp only)) | walk1 | (dsimp only; walk1))
  k_here
  k_dflt (refine LCg.ListComp_U (F₀ := by k_asm) (by with_unfolding_all rfl) (by decide) (by rfl) (by decide) (by rfl) ?_)
  repeat ((fail_if_success (with_reducible show LCg.CompSrc _ _ _ _ _ _ _ _ _ _ _ _ _ _)); first | (k_unfold; (try dsimp only)) | walk1 | (dsimp only; walk1))
  (rename News _ _ _ _ => N9)
  (rename Fr _ _ _ _ => F9)
  (rename IsRange _ _ _ _ _ _ _ _ => R9)
  obtain ⟨z1, z2, z3⟩ := range_sz v1m hm9 v10
  refine LCg.CompSrc.range (by rfl) F9 (news_tail2 N9) R9 z2 z1 z3 fun g9 => ?_
  refine comp_inv (DrJ pl c (L9 + 1, o9)) ?turn _ 0 [] _ ⟨[], x2, t2, n2, IntsAre.nil, fun _ h => (nomatch h), X2, rfl⟩ rfl ?fin
  case turn =>
    clear N9 F9 R9
    rintro i ys news ⟨ns, x, t, k, hI, hB, hx, rfl⟩
    intro v I oI C oC D m₂ h tk E' hv hC hx' F N off ne
    (try simp only [LCg.Off3, and_true] at off)
    repeat (first | (k_unfold; (try dsimp only)) | walk1 | (dsimp only; walk1))
    exact ⟨_, _, _, _, IntsAre.append hI (IntsAre.cons _ _ IntsAre.nil), fun u hu => by
      rcases List.mem_append.mp hu with q | q
      · exact hB u q
      · rw [List.mem_singleton.mp q]; omega, by assumption, rfl⟩
  case fin =>
    clear N9 F9 R9
    rintro ys news hl ⟨ns, x, t, k, hI, hB, hx, rfl⟩
    have hll := hI.length
    have hm1 : 1 ≤ ns.length := by omega
    have hm2 : (ns.length : Int) ≤ most := by omega
    have hm3 : ns.length ≤ 3 := by omega
    repeat (first | (k_unfold; (try dsimp only)) | walk1 | (dsimp only; walk1))
    ((try (k_unfold; (try dsimp only))); (try dsimp only); (try (k_unfold; (try dsimp only))); ((rename (∀ r h' tk' x' t' n', GrowsBut _ _ h' → _) => hret9); (refine' endDr hret9 ?zFq52 ?zNq52 ?zmq52 ?zxq52 ?zlq52 ?ziq52 ?_); (case zFq52 => k_asm); (case zNq52 => k_asm); (case zmq52 => k_mem); (case zxq52 => assumption); (case zlq52 => k_mem); (case ziq52 => assumption)))
    exact dr_of hm1 hm2 hB (menu4 v20 v24)
section
/-! what the law's lists are, and the law's equations for them -/
theorem cut_bd {l : List Int} {M : Nat} (h : ∀ x ∈ l, x.natAbs ≤ M) (k : Nat) : (cut l k).natAbs ≤ M := by
  by_cases hk : k < l.length
  · rw [show cut l k = l[k] from by simp [cut, hk]]; exact h _ (List.getElem_mem hk)
  · rw [cut_high (by lia)]; exact Nat.zero_le _
theorem dpre_of {l : List Int} (h2 : 2 ≤ l.length) (h7 : l.length ≤ 7) (hl : lead l ≠ 0) (hb : ∀ x ∈ l, x.natAbs ≤ 2 ^ 17) : DPre l := ⟨h2, h7, hl, cut_bd hb⟩
theorem Dr.fs {most : Int} {f : List Int} (h : Dr most f) {n : Nat} (hn : most ≤ n) : Fs n f := ⟨h.lo, by have := h.hi; lia, h.ld⟩
theorem Dr.dpre {most : Int} {f : List Int} (h : Dr most f) (hn : most ≤ 3) : DPre f :=
  dpre_of h.lo (by have := h.hi; lia) h.ld fun x hx => Nat.le_trans (h.bd x hx) (by decide)
theorem Dr.spre {f g : List Int} (hf : Dr 3 f) (hg : Dr 2 g) : SPre f g := by
  have a1 := hf.lo; have a2 := hf.hi; have b1 := hg.lo; have b2 := hg.hi
  exact ⟨a1, by lia, by lia, by lia, by lia, hf.ld, hg.ld, fun k => Nat.le_trans (cut_bd hf.bd k) (by decide), fun k => Nat.le_trans (cut_bd hg.bd k) (by decide)⟩
-- 1: the product
theorem comb_lead {f g : Rw} {m n : Nat} (hf : ∀ t, m < t → f t = 0) : comb g f (n + 1) (m + n) = f m * g n := by
  show comb g f n (m + n) + g n * shf n f (m + n) = _
  rw [comb_low g (q := m + 1) (fun t ht => hf t (by lia)) n (m + n) (by lia)]
  unfold shf
  rw [if_pos (by lia), Nat.add_sub_cancel, Int.zero_add, Int.mul_comm]
theorem comb_bd {c R : Rw} {A B : Nat} (hc : ∀ i, (c i).natAbs ≤ A) (hR : ∀ i, (R i).natAbs ≤ B) : ∀ n k, (comb c R n k).natAbs ≤ n * (A * B)
  | 0, _ => by simp [comb]
  | n + 1, k => by
    show (comb c R n k + c n * shf n R k).natAbs ≤ _
    have h1 := comb_bd hc hR n k
    have h2 : (shf n R k).natAbs ≤ B := by
      unfold shf; split
      · exact hR _
      · exact Nat.zero_le _
    have h3 : (c n * shf n R k).natAbs ≤ A * B := by rw [Int.natAbs_mul]; exact Nat.mul_le_mul (hc n) h2
    have h4 := Int.natAbs_add_le (comb c R n k) (c n * shf n R k)
    rw [Nat.add_mul, Nat.one_mul]; lia
theorem mul_cut {f g r : List Int} (h : IsMul f g r) (hf : 2 ≤ f.length) (hg : 2 ≤ g.length) : cut r = comb (cut g) (cut f) (g.length - 1 + 1) := by
  have e : cut r = comb (cut f) (cut g) f.length := funext h.2
  rw [e, comb_comm (m := f.length - 1) (n := g.length - 1) (fun t ht => cut_high (by lia)) (fun t ht => cut_high (by lia)), Nat.sub_add_cancel (by lia)]
theorem mul_lead {f g r : List Int} (h : IsMul f g r) (hf : 2 ≤ f.length) (hg : 2 ≤ g.length) : lead r = lead f * lead g := by
  unfold lead
  rw [mul_cut h hf hg, h.1, show f.length + g.length - 1 - 1 = f.length - 1 + (g.length - 1) by lia, comb_lead fun t ht => cut_high (by lia)]
theorem mul_dpre {f g r : List Int} (h : IsMul f g r) (hf : Dr 3 f) (hg : Dr 2 g) : DPre r := by
  have a1 := hf.lo; have a2 := hf.hi; have b1 := hg.lo; have b2 := hg.hi
  refine ⟨by rw [h.1]; omega, by rw [h.1]; omega, ?_, fun k => ?_⟩
  · rw [mul_lead h a1 b1]; exact Int.mul_ne_zero hf.ld hg.ld
  · rw [h.2]
    refine Nat.le_trans (comb_bd (A := 3) (B := 3) (cut_bd hf.bd) (cut_bd hg.bd) _ _) ?_
    exact Nat.le_trans (Nat.mul_le_mul_right _ (show f.length ≤ 4 by omega)) (by decide)
theorem law1L {f g r : List Int} (h : IsMul f g r) (hf : Dr 3 f) (hg : Dr 2 g) : Dl r = Dl f * Dl g * (Rl f g * Rl f g) := by
  have a1 := hf.lo; have a2 := hf.hi; have b1 := hg.lo; have b2 := hg.hi
  have e := law1 (f := cut f) (g := cut g) (m := f.length - 1) (n := g.length - 1) (by lia) (by lia) (by lia) (by lia) (fun t ht => cut_high (by lia)) (fun t ht => cut_high (by lia)) hf.ld hg.ld (comb_lead fun t ht => cut_high (by lia))
  unfold Dl Rl
  rw [mul_cut h a1 b1, h.1, show f.length + g.length - 1 - 1 = f.length - 1 + (g.length - 1) by lia]
  exact e
-- 2: moved
theorem mv_inv {cc : Int} {a : List Int} (hb : ∀ x ∈ a, x.natAbs ≤ 3) (hc : cc.natAbs ≤ 3) : ∀ i, i ≤ a.reverse.length → ∃ fo, MvI cc a i fo
  | 0, _ => ⟨_, MvI.start cc a⟩
  | i + 1, h => by
    obtain ⟨fo, hi⟩ := mv_inv hb hc i (by lia)
    have hx : a.reverse[i]? = some a.reverse[i] := List.getElem?_eq_getElem (by lia)
    exact ⟨_, hi.step hx (hb _ (List.mem_reverse.mp (List.getElem_mem _))) hc rfl rfl rfl⟩
theorem mv_bd {cc : Int} {a : List Int} (hb : ∀ x ∈ a, x.natAbs ≤ 3) (hc : cc.natAbs ≤ 3) (h4 : a.length ≤ 4) : ∀ x ∈ mv cc a, x.natAbs ≤ 2 ^ 17 := by
  obtain ⟨fo, hi⟩ := mv_inv hb hc a.reverse.length (Nat.le_refl _)
  intro x hx
  rw [← hi.fin] at hx
  refine Nat.le_trans (hi.bd x (List.mem_of_mem_take hx)) (Nat.le_trans (Nat.sub_le _ _) ?_)
  exact Nat.le_trans (Nat.pow_le_pow_right (by decide) (show a.reverse.length ≤ 4 by rw [List.length_reverse]; exact h4)) (by decide)
theorem mv_len {f : List Int} (hf : Fs 3 f) (c : Int) : (mv c f).length = f.length ∧ lead (mv c f) = lead f := by
  rcases hf.cases with ⟨x, y, h, rfl⟩ | ⟨x, y, z, h, rfl⟩ | ⟨x, y, z, u, h, rfl⟩
  · rw [mv2]; exact ⟨rfl, rfl⟩
  · rw [mv3]; exact ⟨rfl, rfl⟩
  · rw [mv4]; exact ⟨rfl, rfl⟩
theorem mv_dpre {f : List Int} (hf : Dr 3 f) {c : Int} (hc : c.natAbs ≤ 3) : DPre (mv c f) := by
  have a1 := hf.lo; have a2 := hf.hi
  obtain ⟨e1, e2⟩ := mv_len (hf.fs (by decide)) c
  exact dpre_of (by lia) (by lia) (by rw [e2]; exact hf.ld) (mv_bd hf.bd hc (by lia))
theorem Dr.up {f : List Int} (h : Dr 2 f) : Dr 3 f := ⟨h.lo, by have := h.hi; lia, h.ld, h.bd⟩
theorem mv_spre {f g : List Int} (hf : Dr 3 f) (hg : Dr 2 g) {c : Int} (hc : c.natAbs ≤ 3) : SPre (mv c f) (mv c g) := by
  have a1 := hf.lo; have a2 := hf.hi; have b1 := hg.lo; have b2 := hg.hi
  obtain ⟨e1, e2⟩ := mv_len (hf.fs (by decide)) c
  obtain ⟨e3, e4⟩ := mv_len (hg.up.fs (by decide)) c
  exact ⟨by lia, by lia, by lia, by lia, by lia, by rw [e2]; exact hf.ld, by rw [e4]; exact hg.ld, fun k => Nat.le_trans (cut_bd (mv_bd hf.bd hc (by lia)) k) (by decide), fun k => Nat.le_trans (cut_bd (mv_bd hg.bd hc (by lia)) k) (by decide)⟩
-- 3, 4, 5
theorem cut_kmap (f : List Int) (k : Int) (i : Nat) : cut (f.map fun x => k * x) i = k * cut f i := by
  unfold cut; simp only [List.getD_eq_getElem?_getD, List.getElem?_map]
  cases f[i]? <;> simp
theorem scale_dpre {f : List Int} (hf : Dr 3 f) {k : Int} (hk : k ≠ 0) (hk3 : k.natAbs ≤ 3) : DPre (f.map fun x => k * x) := by
  have a1 := hf.lo; have a2 := hf.hi
  refine ⟨by rw [List.length_map]; exact a1, by rw [List.length_map]; lia, ?_, fun i => ?_⟩
  · unfold lead; rw [cut_kmap, List.length_map]; exact Int.mul_ne_zero hk hf.ld
  · rw [cut_kmap, Int.natAbs_mul]; exact Nat.le_trans (Nat.mul_le_mul hk3 (cut_bd hf.bd i)) (by decide)
theorem cut_stretch (f : List Int) (k : Int) (i : Nat) : cut (stretch k f) i = cut f i * k ^ i := by
  unfold cut stretch; simp only [List.getD_eq_getElem?_getD, List.getElem?_map, List.getElem?_zipIdx]
  cases f[i]? <;> simp
theorem stretch_len (f : List Int) (k : Int) : (stretch k f).length = f.length := by unfold stretch; simp
theorem stretch_dpre {f : List Int} (hf : Dr 3 f) {k : Int} (hk : k ≠ 0) (hk3 : k.natAbs ≤ 3) : DPre (stretch k f) := by
  have a1 := hf.lo; have a2 := hf.hi
  refine ⟨by rw [stretch_len]; exact a1, by rw [stretch_len]; lia, ?_, fun i => ?_⟩
  · unfold lead; rw [cut_stretch, stretch_len]; exact Int.mul_ne_zero hf.ld (Int.pow_ne_zero hk)
  · rw [cut_stretch]
    by_cases hi : i < 4
    · rw [Int.natAbs_mul, Int.natAbs_pow]
      exact Nat.le_trans (Nat.mul_le_mul (cut_bd hf.bd i) (Nat.le_trans (Nat.pow_le_pow_left hk3 i) (Nat.pow_le_pow_right (by decide) (Nat.le_of_lt hi)))) (by decide)
    · rw [cut_high (by lia)]; simp
theorem rev_dpre {f : List Int} (hf : Dr 3 f) (h0 : cut f 0 ≠ 0) : DPre f.reverse := by
  have a1 := hf.lo; have a2 := hf.hi
  refine dpre_of (by rw [List.length_reverse]; exact a1) (by rw [List.length_reverse]; lia) ?_ fun x hx => Nat.le_trans (hf.bd x (List.mem_reverse.mp hx)) (by decide)
  unfold lead
  rcases (hf.fs (n := 3) (by decide)).cases with ⟨x, y, h, rfl⟩ | ⟨x, y, z, h, rfl⟩ | ⟨x, y, z, u, h, rfl⟩ <;> exact h0
-- 6: spread
theorem foldl_spread_mem : ∀ (f : List Int) (s : List Int) (x : Int), x ∈ f.foldl (fun s one => s ++ [one, 0]) s → x ∈ s ∨ x ∈ f ∨ x = 0
  | [], _, _, h => .inl h
  | y :: f, s, x, h => by
    rcases foldl_spread_mem f _ x h with q | q | q
    · rcases List.mem_append.mp q with q | q
      · exact .inl q
      · rcases List.mem_cons.mp q with rfl | q
        · exact .inr (.inl (.head _))
        · exact .inr (.inr (List.mem_singleton.mp q))
    · exact .inr (.inl (.tail _ q))
    · exact .inr (.inr q)
theorem spread_bd {f : List Int} (hf : Dr 3 f) : ∀ x ∈ spread f, x.natAbs ≤ 2 ^ 17 := fun x hx => by
  rcases foldl_spread_mem f [] x (List.dropLast_subset _ hx) with q | q | q
  · cases q
  · exact Nat.le_trans (hf.bd x q) (by decide)
  · rw [q]; exact Nat.zero_le _
theorem spread_dpre {f : List Int} (hf : Dr 3 f) : DPre (spread f) := by
  have hb := spread_bd hf
  rcases (hf.fs (n := 3) (by decide)).cases with ⟨x, y, h, rfl⟩ | ⟨x, y, z, h, rfl⟩ | ⟨x, y, z, u, h, rfl⟩ <;> exact dpre_of (Nat.le_of_ble_eq_true rfl) (Nat.le_of_ble_eq_true rfl) h hb
theorem spread_cut {f : List Int} (hf : Fs 3 f) : (spread f).length = 2 * (f.length - 1) + 1 ∧ cut (spread f) = ev (cut f) := by
  rcases hf.cases with ⟨x, y, h, rfl⟩ | ⟨x, y, z, h, rfl⟩ | ⟨x, y, z, u, h, rfl⟩
  all_goals
    refine ⟨by simp [spread], funext fun t => ?_⟩
    simp only [spread, List.foldl, List.dropLast, List.nil_append, List.cons_append, ev]
    match t with
    | 0 => simp [cut]
    | 1 => simp [cut]
    | 2 => simp [cut]
    | 3 => simp [cut]
    | 4 => simp [cut]
    | 5 => simp [cut]
    | 6 => simp [cut]
    | t + 7 =>
      rw [cut_high (by simp)]
      split
      · rw [cut_high (by simp; lia)]
      · rfl
theorem law7L {f : List Int} (hf : Dr 3 f) : Dl (spread f) = (-4) ^ (f.length - 1) * lead f * cut f 0 * (Dl f * Dl f) := by
  have a1 := hf.lo; have a2 := hf.hi
  obtain ⟨e1, e2⟩ := spread_cut (hf.fs (n := 3) (by decide))
  unfold Dl
  rw [e1, e2, Nat.add_sub_cancel]
  exact law7 (by lia) (by lia) (fun t ht => cut_high (by lia)) hf.ld
-- sizes
theorem bits_Rl {a b : List Int} (P : SPre a b) : Builtin.Int.intBits (Rl a b) ≤ 6000 := by
  have key : ∀ {a b : List Int}, SPre a b → b.length ≤ a.length → Builtin.Int.intBits (Rl a b) ≤ 6000 := fun {a b} P h => by
    have e := res_end1 P
    have R := P.rpre h
    have hR : Builtin.Int.intBits (1 * Res (pDiv a (content a)) (pDiv b (content b))) ≤ 300 := by
      rw [Int.one_mul]
      exact bits_of_lt (Sj0_bound (j := 0) (κ := 0) R (by have := R.la; have := R.lb; lia) (Nat.zero_le _) (Nat.zero_le _))
    have := P.a7; have := P.b7
    rw [← e]
    exact Nat.le_trans (bits_mul (bits_mul (bits_pow (bits_content P.ba P.ta) (by lia)) (bits_pow (bits_content P.bb P.tb) (by lia))) hR) (by decide)
  by_cases h : b.length ≤ a.length
  · exact key P h
  · have h1 := key (P.swap (by lia)) (by lia)
    have h2 : (Rl a b).natAbs = (Rl b a).natAbs := by
      rw [Rl_swap (a := b) (b := a) (by have := P.lb; have := P.la; lia), natAbs_pm (sg_sq _)]
    exact PySem.intBits_le_iff.mpr (by rw [h2]; exact PySem.intBits_le_iff.mp h1)
theorem bits_Dl {f : List Int} (P : DPre f) : Builtin.Int.intBits (Dl f) ≤ 6000 := by
  have h1 : Builtin.Int.intBits ((Rl f (deriveL f)).fdiv (lead f)) ≤ 6000 := bits_fdiv (bits_Rl P.spre)
  rw [Dl_eq P]
  exact PySem.intBits_le_iff.mpr (by rw [natAbs_pm (sg_sq _)]; exact PySem.intBits_le_iff.mp h1)
end
/-! the uses of the law's own defs -/
theorem law1P {f g r : List Int} (h : IsMul f g r) (hf : Dr 3 f) (hg : Dr 2 g) : Dl r = Dl f * Dl g * Rl f g ^ Int.toNat 2 := by
  rw [law1L h hf hg, show Int.toNat 2 = 2 from rfl, Int.pow_succ, Int.pow_succ, Int.pow_zero, Int.one_mul]
section
variable {w : World} {f : Addr} {args : List Value} {Pre : Heap → Prop} {D : Nat} {dp un : Nat} {gd : Option (List Code)} {cn : Str} {cs : Scope} {a : Addr} {ccd : Value} {cl : List (Str × Addr)} {outer : List Env} {A₀ : Around} {base h₀ : Heap} {L : Addr} {m : Str → Option Value} {s : Shared}
    {p : Program} {loose : List Str} {mean : ExcName → Option Value} {mg mb : Str → Option Value} {Q E : Value → Shared → Prop} {news : List (Addr × Obj)} {pl c : Addr} {x : Int} {t : Tok} {n : Nat} {most : Int}
theorem PMut.useDr (C : PMut w f args pl c Pre D (OutDr most)) (B : Below A₀ base outer h₀) (F : Fr h₀ L s.heap m) (X : (hd0.heap_1 w.params).In h₀) (N : News h₀ L s.heap news) (T : Top p loose mean mg mb h₀) (hk : cs.kind = .function)
    (i : Nat) (hm : PoolAt pl (listOf #[.ref c, .int x t] n) i news) (hx : 0 ≤ x) (hpre : Pre (hideAll s.heap [pl])) (hd : dp + D < recursionLimit) (hu : un + 8 * D < cLine)
    (ret : ∀ d vs k ns h' tk' x' t' n', 0 ≤ x' → Fr h₀ L h' m → News h₀ L h' ((d, listOf (List.toArray vs) k) :: news.set i (pl, listOf #[.ref c, .int x' t'] n')) → (∀ q ∈ news, @Ne Nat q.1 d) → IntsAre vs ns → Dr most ns → Q (.ref d) { s with heap := h', toks := tk' }) :
    wpAny (model PySem.Challenge.rw_sa0085_01.row.prog w) (ktrTop dp un gd cn cs L a ccd cl outer) (call (.ref f) args) Q E s := by
  have N1 : News h₀ L s.heap [(pl, poolO c x t n)] := fun q hq => by
    rw [List.mem_singleton.mp hq]; exact N _ hm.mem
  refine C _ _ _ _ _ _ _ _ _ _ _ _ _ _ _ _ _ _ _ _ _ _ x t n B F X T hk N1 hx hpre hd hu fun r h' tk' x' t' n' g hp hx' o => ?_
  obtain ⟨ns, hD, d, vs, k, rfl, o1, o2, o3⟩ := o
  have S := hm.swp (listOf #[.ref c, .int x' t'] n')
  have F' : Fr h₀ L h' m := by
    refine ⟨F.ns.at' fun o e => g L o (fun q => (N _ hm.mem).2.1 q.symm) e, fun b o e => g b o (fun q => ?_) (F.keep b o e), F.above⟩
    have := (N _ hm.mem).2.2
    rw [q] at e; rw [e] at this; cases this
  have hdp : d ≠ pl := by
    rintro rfl
    rw [o1] at hp
    have e := Option.some.inj hp
    have e1 : Data.seq vs.toArray k = Data.seq #[.ref c, .int x' t'] n' := congrArg Obj.data e
    injection e1 with e3 _
    have e2 : vs = [.ref c, .int x' t'] := by simpa using congrArg Array.toList e3
    rw [e2] at o3; cases o3
  have hsd : s.heap.get? d = none := by
    cases q : s.heap.get? d with
    | none => rfl
    | some o => rw [hideAll_get [pl] q (by simpa using hdp)] at o2; cases o2
  refine ret d vs k ns h' tk' x' t' n' hx' F' (fun q hq => ?_) (fun q hq e => ?_) o3 hD
  · rcases List.mem_cons.mp hq with rfl | hq
    · refine ⟨o1, ?_, ?_⟩
      · rintro rfl
        obtain ⟨oL, _, _, hL, _⟩ := F.ns
        rw [hsd] at hL; cases hL
      · cases q : h₀.get? d with
        | none => rfl
        | some o' => rw [F.keep _ _ q] at hsd; cases hsd
    · exact S.news N g hp q hq
  · have e : q.1 = d := e
    have := (N q hq).1; rw [e, hsd] at this; cases this
end
local macro_rules | `(tactic| walk_at "p afterDr") => `(tactic| (k_whole; intro d9 v9 k9 f9 h9 tk9 x9 t9 n9 X9 F9 N9 nd9 I9 D9; (try dsimp only [List.set] at N9); (try simp only [List.forall_mem_cons, List.not_mem_nil, false_implies, implies_true, and_true] at nd9); (try dsimp only); (try k_sweep); (try k_fold)))
local macro_rules | `(tactic| walk_at "call ref") => `(tactic| (k_here; k_dflt (refine' PMut.useDr (con_drawn _ _ _ _ _ ?hi ?hlen _ _ ?hm0 ?hm9) ?k1 ?k2 ?k3 ?k4 ?k5 ?kK _ ?zm ?zx ?zpre ?kd ?ku ?_; (case k4 => k_asm); (case zm => walk_at "p pool"); walk_at "p sidesM"); walk_at "p afterDr"))
local macro_rules | `(tactic| walk_at "p sidesH") => `(tactic| (
  (case k1 => k_asm);
  (case k2 => k_asm);
  (case k3 => k_asm);
  (case k4 => k_asm);
  (case k5 => k_asm);
  (case kK => first | exact rfl | assumption);
  (case kd => ktr_room);
  (case ku => ktr_units)))
local macro_rules | `(tactic| walk_at "call ref") => `(tactic| (k_here; k_dflt (refine' PHold.useE (con_times _ _ _ _ _ ?hi ?hf ?hf9 ?hs _ _ _ _ ?hi1 ?hg ?hg9 ?hs1) ?k1 ?k2 ?k3 ?k4 ?k5 ?kK ?zs ?kd ?ku ?_; walk_at "p sidesH"; (case zs => walk_at "it all" <;> k_mem); (case hi => walk_at "p ints"); (case hi1 => walk_at "p ints"); (case hf => omega); (case hf9 => omega); (case hg => omega); (case hg9 => omega); (case hs => assumption); (case hs1 => assumption)); walk_at "p afterTm"))
local macro_rules | `(tactic| walk_at "call ref") => `(tactic| (k_here; k_dflt (refine' PHold.useL (con_moved _ _ _ _ _ ?hi ?hf ?hf9 ?hb _ _ ?hc) ?k1 ?k2 ?k3 ?k4 ?k5 ?kK ?zs ?kd ?ku ?_; walk_at "p sidesH"; (case zs => walk_at "it all" <;> k_mem); (case hi => walk_at "p ints"); (case hf => omega); (case hf9 => omega); (case hb => assumption); (case hc => assumption)); walk_at "p afterL"))
local macro_rules | `(tactic| walk_at "p afterTm") => `(tactic| (k_whole; intro d9 v9 n9 R9 h9 tk9 F9 N9 I9 P9; (have q9 := law1P P9 (by assumption) (by assumption)); (have q8 := mul_dpre P9 (by assumption) (by assumption)); (try dsimp only); (try k_sweep); (try k_fold)))
local macro_rules | `(tactic| walk_at "call ref") => `(tactic| (k_here; k_dflt (refine' PCon.useI (con_disc _ _ _ _ ?hi ?zP) ?k1 ?k2 ?k3 ?k4 ?k5 ?kK ?pre ?kd ?ku ?_; (case pre => walk_at "p list"); (case hi => walk_at "p ints"); (case zP => assumption); walk_at "p sides"); walk_at "p afterI"))
local macro_rules | `(tactic| walk_at "p spre") => `(tactic| assumption)
theorem c_bd {v : Int} (h7 : v < 7) (h0 : 0 ≤ v) : (v - 3).natAbs ≤ 3 := by omega
theorem k_bd {v : Int} (h4 : v < 4) (h0 : 0 ≤ v) : ([2, -1, 3, -2] : List Int).getD v.toNat 0 ≠ 0 ∧ (([2, -1, 3, -2] : List Int).getD v.toNat 0).natAbs ≤ 3 := by
  rcases (show v = 0 ∨ v = 1 ∨ v = 2 ∨ v = 3 by omega) with rfl | rfl | rfl | rfl <;> decide
theorem news_sub3 {h₀ h : Heap} {L : Addr} {news : List (Addr × Obj)} {p q r : Addr × Obj} (N : News h₀ L h news) (h1 : p ∈ news) (h2 : q ∈ news) (h3 : r ∈ news) : News h₀ L h [p, q, r] := fun u hu => by
  simp only [List.mem_cons, List.not_mem_nil, or_false] at hu
  rcases hu with rfl | rfl | rfl
  · exact N _ h1
  · exact N _ h2
  · exact N _ h3
theorem law3P {f : List Int} (h : Dr 3 f) {K : Int} (hK : K ≠ 0) : Dl (List.map (fun x => K * x) f) = K ^ (2 * ((f.length : Int) - 1) - 2).toNat * Dl f := by
  have h1 := h.lo
  rw [law3 (h.fs (n := 3) (by decide)) hK, show (2 * ((f.length : Int) - 1) - 2).toNat = 2 * (f.length - 1) - 2 by omega]
theorem law4P {f : List Int} (h : Dr 3 f) {K : Int} (hK : K ≠ 0) : Dl (stretch K f) = K ^ (((f.length : Int) - 1) * ((f.length : Int) - 1 - 1)).toNat * Dl f := by
  have h1 := h.lo; have h2 := h.hi
  rw [law4 (h.fs (n := 3) (by decide)) hK]
  rcases (show f.length = 2 ∨ f.length = 3 ∨ f.length = 4 by omega) with e | e | e <;> rw [e] <;> rfl
theorem law5P {f : List Int} (h : Dr 3 f) (h0 : f.getD (Int.toNat 0) 0 ≠ 0) : DPre f.reverse ∧ Dl f.reverse = Dl f := ⟨rev_dpre h h0, law5 (h.fs (n := 3) (by decide)) h0⟩
theorem law7P {f : List Int} (h : Dr 3 f) : Dl (spread f) = (-4) ^ ((f.length : Int) - 1).toNat * f.getD ((f.length : Int) - 1).toNat 0 * f.getD (Int.toNat 0) 0 * Dl f ^ Int.toNat 2 := by
  have h1 := h.lo
  rw [law7L h, show ((f.length : Int) - 1).toNat = f.length - 1 by omega, show Int.toNat 2 = 2 from rfl, Int.pow_succ, Int.pow_succ, Int.pow_zero, Int.one_mul]; rfl
theorem nn_bd {f : List Int} (h : Dr 3 f) : 0 ≤ ((f.length : Int) - 1) * ((f.length : Int) - 1 - 1) ∧ ((f.length : Int) - 1) * ((f.length : Int) - 1 - 1) ≤ 6 := by
  have h1 := h.lo; have h2 := h.hi
  rcases (show f.length = 2 ∨ f.length = 3 ∨ f.length = 4 by omega) with e | e | e <;> rw [e] <;> decide
section
variable {prog : Program} {w : World} {A : Around} {s : Shared} {env : Env} {E : Value → Shared → Prop} {Q : Flow → Shared → Prop} {h₀ : Heap} {L : Addr} {m : Str → Option Value} {news : List (Addr × Obj)}
theorem join_if {st : Stmt} {rest : List Stmt} (_F : Fr h₀ L s.heap m) (_N : News h₀ L s.heap news)
    (h : wpAny (model prog w) A (exec st env) (fun f s' => f = .next ∧ ∃ h' tk', s' = { s with heap := h', toks := tk' } ∧ Fr h₀ L h' m ∧ News h₀ L h' news) E s)
    (k : ∀ h' tk', Fr h₀ L h' m → News h₀ L h' news → wpAny (model prog w) A (execs rest env) Q E { s with heap := h', toks := tk' }) :
    wpAny (model prog w) A (execs (st :: rest) env) Q E s :=
  wpAny_execs_cons (wpAny_mono h (fun f s' q => by
    obtain ⟨rfl, h', tk', rfl, F', N'⟩ := q
    exact k h' tk' F' N') fun _ _ x => x)
theorem stretch_elt {scope : Scope} {cl : List (Str × Addr)} {p1 p2 p3 p4 p5 : Pos} {s₃ : Shared} {m₃ : Str → Option Value} {C ca : Addr} {E' : Value → Shared → Prop} {a K : Int} {i : Nat} {t u tK : Tok} (hk : scope.kind = .function) (k1 : (compEnvC scope cl C env).kindOf (Str.ofString "at") = some .local) (k2 : (compEnvC scope cl C env).kindOf (Str.ofString "one") = some .local)
    (k3 : (compEnvC scope cl C env).kindOf (Str.ofString "k") = some .cell) (k4 : (compEnvC scope cl C env).cells.lookup (Str.ofString "k") = some ca) (hv : s₃.heap.IsCell ca (some (.int K tK)))
    (hn : s₃.heap.Ns C m₃) (h1 : m₃ (Str.ofString "at") = some (.int (i : Int) t)) (h2 : m₃ (Str.ofString "one") = some (.int a u)) (ha : Sml a) (hK : Builtin.Int.intBits K ≤ 300) (hi : i ≤ 8) :
    wpAny (model prog w) A (eval (.BinOp (.Name (Str.ofString "one") p1) .Mult (.BinOp (.Name (Str.ofString "k") p2) .Pow (.Name (Str.ofString "at") p3) p4) p5) (compEnvC scope cl C env)) (fun y s₄ => (∃ t', y = .int (a * K ^ i) t') ∧ Keeps s₃ s₄) E' s₃ := by
  refine wpAny_BinOp (wpAny_Name (wpAny_loadName_local hk k2 hn h2 (wpAny_BinOp (wpAny_Name (wpAny_loadName_cell hk k3 k4 hv (wpAny_Name (wpAny_loadName_local hk k1 hn h1 (pow_int (Int.natCast_nonneg i) (pow_room (sml_300 hK) (Int.natCast_nonneg i) (by omega)) ?_))))))))
  refine PyProof.Rows.mul_int ⟨⟨_, by rw [Int.toNat_natCast]⟩, _, _, rfl, fun _ _ e => e⟩ (PySem.IntMulOk.of_bits ha ?_)
  exact sml_pow hK (by omega)
end
structure SpI (f : List Int) (i : Nat) (fo : List Int) : Prop where
  eq : fo = (f.take i).foldl (fun s one => s ++ [one, 0]) []
  len : fo.length = 2 * i
theorem SpI.start (f : List Int) : SpI f 0 [] := ⟨rfl, rfl⟩
theorem SpI.step {f fo : List Int} {i : Nat} {x : Int} (h : SpI f i fo) (hx : f[i]? = some x) : SpI f (i + 1) (fo ++ [x, 0]) := by
  refine ⟨?_, ?_⟩
  · rw [List.take_add_one, hx, Option.toList_some, List.foldl_append, ← h.eq]; rfl
  · rw [List.length_append, h.len]; simp; omega
theorem SpI.fin {f fo : List Int} (h : SpI f f.length fo) : fo.dropLast = spread f := by
  rw [h.eq, List.take_of_length_le (Nat.le_refl _)]; rfl
local macro_rules | `(tactic| walk_at "law stop") => `(tactic| first
  | ((with_reducible show wpAny _ _ (execs [Stmt.Return _ _] _) _ _ _); contradiction)
  | (k_end; (try dsimp only); exact ⟨rfl, _, _, rfl, by k_asm, news_sub3 (by k_asm) (by k_mem) (by k_mem) (by k_mem)⟩))
local macro_rules | `(tactic| walk_at "law if") => `(tactic| ((rename News _ _ _ _ => lN'); (rename Fr _ _ _ _ => lF'); refine' join_if lF' lN' ?g1 ?g2; (case g1 => (try k_fold); (repeat' (first | (k_unfold; (try dsimp only)) | walk_at "law stop" | walk1 | (dsimp only; walk1)))); clear lN' lF'; intro h' tk' F' N'; (try dsimp only)))
local macro_rules | `(tactic| walk_at "to call") => `(tactic| (repeat ((fail_if_success (with_reducible show wpAny _ _ (call (Value.ref _) _) _ _ _)); first | (k_unfold; (try dsimp only)) | walk1 | (dsimp only; walk1))))
set_option maxHeartbeats 8000000 in
theorem try_law : PySem.Challenge.rw_sa0085_01.Holds := by
  refine hd (by rfl) (by rfl) (by rfl) ?_
  k_fill
  intro w s₀ s₁ mg mb G Y fa o pm cd doc dV kV ho hd hcd hD hmg hg args vals as hpre hlay hrd hwl hlo
  have KX := kIn_of Y
  have X := (Ground.X G).1
  have V := (Ground.X G).2
  have GL := glob_more (Ground.glob G (by decide +kernel) (by decide +kernel)) V
  refine Ground.open G ?_
  intro T B D TE TW
  try (refine guard_noD D (by decide +kernel) ?_; clear D)
  obtain ⟨_, _, M⟩ := bmod_of_top T
  have TA := at_of_top T
  try (obtain ⟨_, _, he, B0⟩ := based_of_top T rfl hmg ho hd; have he' : cd = _ := he; subst he'; clear he)
  clear hmg
  wrow_args hpre hlay hrd hwl hlo
  refine enter_call ?_
  w_top on
  try refine codeAny_mono ?_ (fun _ _ g => GoodW.toG g)
  have K0 := below_caller (Top.heap T)
  w_call any ho hd hcd hD T F
  clear hd TA
  k_drop
  all_goals try k_fold
  k_with_none
  (rename Fr _ _ _ _ => F0)
  obtain ⟨U0, F1⟩ := frame_pick (x := Str.ofString "script") F0 rfl
  clear F0
  walk_at "to call"
  walk1
  rename_i fA fv fk f fh ftk fx ft fn fX F1 N1 fI fD fnd
  walk_at "to call"
  walk1
  rename_i gA gv gk g gh gtk gx gt gn gX F2 N2 gI gD gnd
  walk_at "to call"
  walk1
  rename_i cv ctv ch ctk cx ct cn cX F3 N3 c0 c7
  walk_at "to call"
  walk1
  rename_i kv ktv kh ktk kx kt kn kX F4 N4 k0 k4
  repeat ((fail_if_success (with_reducible show wpAny _ _ (execs _ _) _ _ _)); first | (k_unfold; (try dsimp only)) | walk1 | (dsimp only; walk1))
  (rename News _ _ _ _ => N9)
  (rename Fr _ _ _ _ => F9)
  rename_i o9 hcell
  have N8 := news_sub3 (p := (gA, listOf gv.toArray gk)) (q := (fA, listOf fv.toArray fk)) (r := (_, o9)) N9 (by k_mem) (by k_mem) (by k_mem)
  clear N9 fnd gnd
  obtain ⟨K, hK⟩ : ∃ K : Int, ([2, -1, 3, -2] : List Int).getD kv.toNat 0 = K := ⟨_, rfl⟩
  obtain ⟨C, hC⟩ : ∃ C : Int, cv - 3 = C := ⟨_, rfl⟩
  have hKb := k_bd k4 k0
  have hCb := c_bd c7 c0
  rw [hK] at hcell hKb
  rw [hC] at F9 hCb
  obtain ⟨hK0, hK3⟩ := hKb
  obtain ⟨U, F8⟩ : ∃ U : Str → Option Value, Fr _ _ _ (fun y => if y = Str.ofString "c" then some (.int C _) else if y = Str.ofString "f" then some (.ref fA) else if y = Str.ofString "g" then some (.ref gA) else U y) := ⟨_, F9⟩
  clear F9
  clear k4 k0 c7 c0 hK hC
  have f1 := fD.lo
  have f2 := fD.hi
  have g1 := gD.lo
  have g2 := gD.hi
  have fl := fI.length
  have gl := gI.length
  have P1 := fD.dpre (by decide)
  have P1g := gD.dpre (by decide)
  have P2 := fD.spre gD
  have P3 := mv_dpre fD hCb
  have P4 := mv_spre fD gD hCb
  have P5 := scale_dpre fD hK0 hK3
  have P6 := stretch_dpre fD hK0 hK3
  have P8 := spread_dpre fD
  have L2 := law2 (fD.fs (n := 3) (by decide)) C
  have L2r := law2r (fD.fs (n := 3) (by decide)) (gD.fs (n := 2) (by decide)) C
  have B1 := bits_Dl P1
  have B2 := bits_Dl P1g
  have B3 := bits_Rl P2
  have S1 : Sml (Dl f) := Nat.le_trans B1 (by decide)
  have S2 : Sml (Dl g) := Nat.le_trans B2 (by decide)
  have S3 : Sml (Rl f g) := Nat.le_trans B3 (by decide)
  have S4 : Sml (Dl f * Dl g) := Nat.le_trans (bits_mul B1 B2) (by decide)
  have S5 : Sml (Rl f g ^ Int.toNat 2) := Nat.le_trans (PySem.intBits_pow_le B3 _) (by decide)
  have S6 : Sml (Dl f ^ Int.toNat 2) := Nat.le_trans (PySem.intBits_pow_le B1 _) (by decide)
  have sf : SmlL f := fun x hx => sml_abs (Nat.le_trans (fD.bd x hx) (by decide))
  have sg9 : SmlL g := fun x hx => sml_abs (Nat.le_trans (gD.bd x hx) (by decide))
  have fb := fD.bd
  have gb := gD.bd
  have SK : Sml K := sml_abs (Nat.le_trans hK3 (by decide))
  have BK : Builtin.Int.intBits K ≤ 300 := PySem.intBits_le_iff.mpr (Nat.lt_of_le_of_lt hK3 (by decide +kernel))
  repeat ((fail_if_success (with_reducible show wpAny _ _ (execs (Stmt.If _ _ _ _ :: _) _) _ _ _)); first | (k_unfold; (try dsimp only)) | walk1 | (dsimp only; walk1))
  (rename News _ _ _ _ => N9)
  have N8 := news_sub3 (p := (gA, listOf gv.toArray gk)) (q := (fA, listOf fv.toArray fk)) (r := (_, o9)) N9 (by k_mem) (by k_mem) (by k_mem)
  clear N9
  walk_at "law if"
  walk_at "law if"
  have L3 := law3P fD hK0
  have S7 : Sml (K ^ (2 * ((f.length : Int) - 1) - 2).toNat) := sml_pow BK (by omega)
  walk_at "law if"
  have L4 := law4P fD hK0
  obtain ⟨nn0, nn6⟩ := nn_bd fD
  have S8 : Sml (K ^ (((f.length : Int) - 1) * ((f.length : Int) - 1 - 1)).toNat) := sml_pow BK (by omega)
  k_with "enum" =>
    (rename News _ _ _ _ => N7)
    have hc7 := N7.get (show (_, o9) ∈ _ by k_mem)
    refine' cp_enum (fun i a => a * K ^ i) (by rfl) (by is_list) fI (Nat.le_trans (show f.length ≤ 16 by omega) (by decide)) (fun C i t a u s₃ m₃ E' ha hn h1 h2 hk3 => stretch_elt (by rfl) (by rfl) (by rfl) (by rfl) (by rfl) ⟨o9, hk3 _ _ hc7, hcell⟩ hn h1 h2 (sf _ (List.mem_of_getElem? ha)) BK (by have := (List.getElem?_eq_some_iff.mp ha).1; omega)) ?_
    walk_at "p comped"
    (rename (_ = List.map _ (List.zipIdx _)) => eX9)
    replace eX9 : _ = stretch K f := eX9
    subst eX9
  walk_at "law if"
  k_with_none
  (rename News _ _ _ _ => N9)
  (rename Fr _ _ _ _ => F9)
  refine' join_if F9 N9 ?g1 ?g2
  case g1 =>
    by_cases h0 : f.getD (Int.toNat 0) 0 = 0
    · (try k_fold)
      repeat' (first | (k_unfold; (try dsimp only)) | ((with_reducible show wpAny _ _ (call (Value.ref _) _) _ _ _); contradiction) | walk_at "law stop" | walk1 | (dsimp only; walk1))
    · obtain ⟨P7, L5⟩ := law5P fD h0
      (try k_fold)
      repeat' (first | (k_unfold; (try dsimp only)) | walk_at "law stop" | walk1 | (dsimp only; walk1))
  clear F9 N9
  intro h' tk' F' N'
  (try dsimp only)
  (try k_fold)
  repeat ((fail_if_success (with_reducible show wpAny _ _ (exec (Stmt.For _ _ _ _ _) _) _ _ _)); first | (k_unfold; (try dsimp only)) | walk1 | (dsimp only; walk1))
  walk_at "it for"
  repeat ((fail_if_success (with_reducible show wpAny _ _ (pyIter _) _ _ _)); first | (k_unfold; (try dsimp only)) | walk1 | (dsimp only; walk1))
  (rename News _ _ _ _ => N9)
  (rename Fr _ _ _ _ => F9)
  rename_i l9 h91 l19 h92
  refine' it_list fI (σ := MvS) (fun c => [(c.D, listOf c.vf.toArray c.nf), (fA, listOf fv.toArray fk)]) (fun c => [(Str.ofString "spread", .ref c.D)]) [Str.ofString "one"] _ (fun i c => IntsAre c.vf c.fo ∧ SpI f i c.fo) ⟨l9, [], 0, []⟩ ?ohh F9 N9 ?omem (fun _ => ?okeep) ⟨IntsAre.nil, SpI.start f⟩ ?ohk ?ohr ?ohn ?oturn ?odone
  case ohh => exact rfl
  case omem => k_mem
  case okeep => exact ⟨.tail _ (.head _), trivial⟩
  case ohk => walk_at "it all" <;> ((try dsimp only); exact rfl)
  case ohr => ksw_same
  case ohn => walk_at "it all" <;> ((try dsimp only); k_mem)
  case oturn =>
    clear F9 N9
    intro I lI
    k_lt lI
    intro i x tx c u h tk hga hp F
    obtain ⟨D, vf, nf, fo⟩ := c
    obtain ⟨hif, hO⟩ := hp
    dsimp only [kstB] at F hif hO ⊢
    have hll := hO.len
    have hlv := hif.length
    have hil := (List.getElem?_eq_some_iff.mp hga).1
    ktu_objs
    repeat ((fail_if_success (with_reducible show ItEnd _ _ _ _ _ _ _ _ _ _)); first | (k_unfold; (try dsimp only)) | walk1 | (dsimp only; walk1))
    ((try dsimp only); (refine' it_end (⟨_, _, _, _⟩ : MvS) (by k_asm) (by k_asm) ?ehiq53 ?ehnq53 ?ehaq53 ?ehkq53 ?ehrq53 ?ehpq53); (case ehkq53 => walk_at "it all" <;> ((try dsimp only); exact rfl)); (case ehiq53 => walk_at "it all" <;> k_mem); (case ehnq53 => walk_at "it all" <;> ((try dsimp only); k_mem)); (case ehaq53 => walk_at "it all" <;> ((try dsimp only); first | k_ne | walk_at "p apart")); (case ehrq53 => ksw_same); (case' ehpq53 => ((try dsimp only); refine And.intro (by assumption) ?_)))
    exact hO.step hga
  case odone =>
    clear F9 N9
    intro c u h tk hp F N
    obtain ⟨D, vf, nf, fo⟩ := c
    obtain ⟨hif, hO⟩ := hp
    dsimp only [kstB] at F N hif hO ⊢
    have hll := hO.len
    have hlv := hif.length
    have hfin := hO.fin
    repeat ((fail_if_success (with_reducible show wpAny _ _ (call (Value.ref _) _) _ _ _)); first | (k_unfold; (try dsimp only)) | walk1 | (dsimp only; walk1))
    have hsp : List.take (fo.length - 1) fo = spread f := by rw [← List.dropLast_eq_take]; exact hfin
    (rename IntsAre _ (List.take _ fo) => hI9)
    rw [hsp] at hI9
    have L7 := law7P fD
    have E1 : Builtin.Int.intBits ((-4 : Int) ^ ((f.length : Int) - 1).toNat) ≤ 2401 := bits_pow (by decide) (by omega)
    have E2 : Builtin.Int.intBits (f.getD ((f.length : Int) - 1).toNat 0) ≤ 1048576 / 8 := Nat.le_trans (PySem.intBits_le_iff.mpr (Nat.lt_of_le_of_lt (cut_bd fb _) (show 3 < 2 ^ 9 by decide))) (by decide)
    have E3 : Builtin.Int.intBits (f.getD (Int.toNat 0) 0) ≤ 1048576 / 8 := Nat.le_trans (PySem.intBits_le_iff.mpr (Nat.lt_of_le_of_lt (cut_bd fb _) (show 3 < 2 ^ 9 by decide))) (by decide)
    have S9 : Sml ((-4 : Int) ^ ((f.length : Int) - 1).toNat) := Nat.le_trans E1 (by decide)
    have S10 : Sml (f.getD ((f.length : Int) - 1).toNat 0) := Nat.le_trans E2 (by decide)
    have S11 : Sml (f.getD (Int.toNat 0) 0) := Nat.le_trans E3 (by decide)
    have S12 : Sml ((-4 : Int) ^ ((f.length : Int) - 1).toNat * f.getD ((f.length : Int) - 1).toNat 0) := Nat.le_trans (bits_mul E1 E2) (by decide)
    have S13 : Sml ((-4 : Int) ^ ((f.length : Int) - 1).toNat * f.getD ((f.length : Int) - 1).toNat 0 * f.getD (Int.toNat 0) 0) := Nat.le_trans (bits_mul (bits_mul E1 E2) E3) (by decide)
    have S14 : Sml (-4) := by decide
    repeat' (first | (k_unfold; (try dsimp only)) | ((with_reducible show GoodW _ _ _ _ _ _ _); fail "end") | walk1 | (dsimp only; walk1))
    rw [L7, beq_self_eq_true]
    kc_close
end Mine
theorem PySem.Challenge.cw_sa0085_01_holds : PySem.Challenge.rw_sa0085_01.Holds :=
  Mine.try_law
